import PyProof.Rows.All
import Wide.All
import OpenK.AllK
import Wide.FinOn
import KE.KStateDown
import HandS.ForMost
import HandS.IsInst
import HandS.DictComp
import HandS.Conv
import HandS.Flow
import HandS.Defaults
import HandS.Deep
import HandS.Walk
import KE.KDictWalk
import KE.KDictCopyH
import HandS.HeadEnd
import HandS.HeadHook1
import HandS.HeadHook2
import HandS.HeadHook3
import PySem.Challenge.RW_triedagain_k51_shortened_shape
set_option Elab.async false
set_option linter.all false
set_option maxRecDepth 100000
set_option maxHeartbeats 4000000
namespace T51
open PySem PySem.Spec PyProof.Rows L2
def top (i : Nat) : Stmt := PySem.Challenge.pw_triedagain_k51_shortened_shape.main.body.getD i (.Pass ⟨0, 0, 0, 0⟩)
def d_is_row : He.DefD := ⟨("is_row", none), "is_row", "is_row", defArgs (top 10), defBody (top 10), defScope (top 10), [], []⟩
def d_is_integer : He.DefD := ⟨("is_integer", none), "is_integer", "is_integer", defArgs (top 11), defBody (top 11), defScope (top 11), [], []⟩
def d_is_name : He.DefD := ⟨("is_name", none), "is_name", "is_name", defArgs (top 12), defBody (top 12), defScope (top 12), [], []⟩
def d_is_character : He.DefD := ⟨("is_character", none), "is_character", "is_character", defArgs (top 13), defBody (top 13), defScope (top 13), [], []⟩
def d_is_written : He.DefD := ⟨("is_written", none), "is_written", "is_written", defArgs (top 14), defBody (top 14), defScope (top 14), [], []⟩
def d_is_word : He.DefD := ⟨("is_word", none), "is_word", "is_word", defArgs (top 15), defBody (top 15), defScope (top 15), [], []⟩
def d_is_plain : He.DefD := ⟨("is_plain", none), "is_plain", "is_plain", defArgs (top 16), defBody (top 16), defScope (top 16), [], []⟩
def d_is_row_of_parts : He.DefD := ⟨("is_row_of_parts", none), "is_row_of_parts", "is_row_of_parts", defArgs (top 17), defBody (top 17), defScope (top 17), [], []⟩
def d_is_within : He.DefD := ⟨("is_within", none), "is_within", "is_within", defArgs (top 18), defBody (top 18), defScope (top 18), [], []⟩
def d_frozen : He.DefD := ⟨("frozen", none), "frozen", "frozen", defArgs (top 19), defBody (top 19), defScope (top 19), [], []⟩
def d_parts_of : He.DefD := ⟨("parts_of", none), "parts_of", "parts_of", defArgs (top 20), defBody (top 20), defScope (top 20), [], []⟩
def d_count_of : He.DefD := ⟨("count_of", none), "count_of", "count_of", defArgs (top 21), defBody (top 21), defScope (top 21), [], []⟩
def d_are_params : He.DefD := ⟨("are_params", none), "are_params", "are_params", defArgs (top 22), defBody (top 22), defScope (top 22), [], []⟩
def d_has_head : He.DefD := ⟨("has_head", none), "has_head", "has_head", defArgs (top 23), defBody (top 23), defScope (top 23), [], []⟩
def d_body_fault : He.DefD := ⟨("body_fault", none), "body_fault", "body_fault", defArgs (top 24), defBody (top 24), defScope (top 24), [], []⟩
def d_is_constant : He.DefD := ⟨("is_constant", none), "is_constant", "is_constant", defArgs (top 38), defBody (top 38), defScope (top 38), [], []⟩
def d_is_right_for : He.DefD := ⟨("is_right_for", none), "is_right_for", "is_right_for", defArgs (top 39), defBody (top 39), defScope (top 39), [], []⟩
def d_is_instruction : He.DefD := ⟨("is_instruction", none), "is_instruction", "is_instruction", defArgs (top 40), defBody (top 40), defScope (top 40), [], []⟩
def d_are_entries : He.DefD := ⟨("are_entries", none), "are_entries", "are_entries", defArgs (top 41), defBody (top 41), defScope (top 41), [], []⟩
def d_Code___init__ : He.DefD := ⟨("Code", some "__init__"), "__init__", "Code.__init__", defArgs (inClass (top 42) 0), defBody (inClass (top 42) 0), defScope (inClass (top 42) 0), [], []⟩
def d_Code_program : He.DefD := ⟨("Code", some "program"), "program", "Code.program", defArgs (inClass (top 42) 1), defBody (inClass (top 42) 1), defScope (inClass (top 42) 1), [], []⟩
def d_Code_entry : He.DefD := ⟨("Code", some "entry"), "entry", "Code.entry", defArgs (inClass (top 42) 2), defBody (inClass (top 42) 2), defScope (inClass (top 42) 2), [], []⟩
def d_Code_rows : He.DefD := ⟨("Code", some "rows"), "rows", "Code.rows", defArgs (inClass (top 42) 3), defBody (inClass (top 42) 3), defScope (inClass (top 42) 3), [], []⟩
def d_Code___len__ : He.DefD := ⟨("Code", some "__len__"), "__len__", "Code.__len__", defArgs (inClass (top 42) 4), defBody (inClass (top 42) 4), defScope (inClass (top 42) 4), [], []⟩
def d_Code___eq__ : He.DefD := ⟨("Code", some "__eq__"), "__eq__", "Code.__eq__", defArgs (inClass (top 42) 5), defBody (inClass (top 42) 5), defScope (inClass (top 42) 5), [], []⟩
def d_landing : He.DefD := ⟨("landing", none), "landing", "landing", defArgs (top 51), defBody (top 51), defScope (top 51), [], []⟩
def d_straight : He.DefD := ⟨("straight", none), "straight", "straight", defArgs (top 52), defBody (top 52), defScope (top 52), [], []⟩
def d_straightened : He.DefD := ⟨("straightened", none), "straightened", "straightened", defArgs (top 53), defBody (top 53), defScope (top 53), [], []⟩
def d_reached_places : He.DefD := ⟨("reached_places", none), "reached_places", "reached_places", defArgs (top 54), defBody (top 54), defScope (top 54), [], []⟩
def d_named_places : He.DefD := ⟨("named_places", none), "named_places", "named_places", defArgs (top 55), defBody (top 55), defScope (top 55), [], []⟩
def d_is_quiet : He.DefD := ⟨("is_quiet", none), "is_quiet", "is_quiet", defArgs (top 56), defBody (top 56), defScope (top 56), [], []⟩
def d_fence_places : He.DefD := ⟨("fence_places", none), "fence_places", "fence_places", defArgs (top 57), defBody (top 57), defScope (top 57), [], []⟩
def d_is_free : He.DefD := ⟨("is_free", none), "is_free", "is_free", defArgs (top 58), defBody (top 58), defScope (top 58), [], []⟩
def d_idle_places : He.DefD := ⟨("idle_places", none), "idle_places", "idle_places", defArgs (top 59), defBody (top 59), defScope (top 59), [], []⟩
def d_kept_places : He.DefD := ⟨("kept_places", none), "kept_places", "kept_places", defArgs (top 60), defBody (top 60), defScope (top 60), [], []⟩
def d_closed_up : He.DefD := ⟨("closed_up", none), "closed_up", "closed_up", defArgs (top 61), defBody (top 61), defScope (top 61), [], []⟩
def d_shorter : He.DefD := ⟨("shorter", none), "shorter", "shorter", defArgs (top 62), defBody (top 62), defScope (top 62), [], []⟩
def d_shortened : He.DefD := ⟨("shortened", none), "shortened", "shortened", defArgs (top 64), defBody (top 64), defScope (top 64), [], []⟩
def d_Program___init__ : He.DefD := ⟨("Program", some "__init__"), "__init__", "Program.__init__", defArgs (inClass (top 67) 0), defBody (inClass (top 67) 0), defScope (inClass (top 67) 0), [], []⟩
def d_Program_names : He.DefD := ⟨("Program", some "names"), "names", "Program.names", defArgs (inClass (top 67) 1), defBody (inClass (top 67) 1), defScope (inClass (top 67) 1), [], []⟩
def d_Program_procedure : He.DefD := ⟨("Program", some "procedure"), "procedure", "Program.procedure", defArgs (inClass (top 67) 2), defBody (inClass (top 67) 2), defScope (inClass (top 67) 2), [], []⟩
def d_Program___eq__ : He.DefD := ⟨("Program", some "__eq__"), "__eq__", "Program.__eq__", defArgs (inClass (top 67) 3), defBody (inClass (top 67) 3), defScope (inClass (top 67) 3), [], []⟩
def d__law_source : He.DefD := ⟨("_law_source", none), "_law_source", "_law_source", defArgs (top 69), defBody (top 69), defScope (top 69), [], []⟩
def d__law_mixed : He.DefD := ⟨("_law_mixed", none), "_law_mixed", "_law_mixed", defArgs (top 70), defBody (top 70), defScope (top 70), [], []⟩
def d__law_draw : He.DefD := ⟨("_law_draw", none), "_law_draw", "_law_draw", defArgs (top 71), defBody (top 71), defScope (top 71), [], []⟩
def d__law_many : He.DefD := ⟨("_law_many", none), "_law_many", "_law_many", defArgs (top 72), defBody (top 72), defScope (top 72), [], []⟩
def d__law_one : He.DefD := ⟨("_law_one", none), "_law_one", "_law_one", defArgs (top 73), defBody (top 73), defScope (top 73), [], []⟩
def d__law_constant : He.DefD := ⟨("_law_constant", none), "_law_constant", "_law_constant", defArgs (top 74), defBody (top 74), defScope (top 74), [], []⟩
def d__law_deed : He.DefD := ⟨("_law_deed", none), "_law_deed", "_law_deed", defArgs (top 75), defBody (top 75), defScope (top 75), [], []⟩
def d__law_chunk : He.DefD := ⟨("_law_chunk", none), "_law_chunk", "_law_chunk", defArgs (top 76), defBody (top 76), defScope (top 76), [], []⟩
def d__law_code : He.DefD := ⟨("_law_code", none), "_law_code", "_law_code", defArgs (top 77), defBody (top 77), defScope (top 77), [], []⟩
def d__law_line : He.DefD := ⟨("_law_line", none), "_law_line", "_law_line", defArgs (top 78), defBody (top 78), defScope (top 78), [], []⟩
def d__law_next : He.DefD := ⟨("_law_next", none), "_law_next", "_law_next", defArgs (top 79), defBody (top 79), defScope (top 79), [], []⟩
def d__law_all_reached : He.DefD := ⟨("_law_all_reached", none), "_law_all_reached", "_law_all_reached", defArgs (top 80), defBody (top 80), defScope (top 80), [], []⟩
def d__law_is_ring : He.DefD := ⟨("_law_is_ring", none), "_law_is_ring", "_law_is_ring", defArgs (top 81), defBody (top 81), defScope (top 81), [], []⟩
def d__law_tidy : He.DefD := ⟨("_law_tidy", none), "_law_tidy", "_law_tidy", defArgs (top 82), defBody (top 82), defScope (top 82), [], []⟩
def d_law : He.DefD := ⟨("law", none), "law", "law", defArgs (top 83), defBody (top 83), defScope (top 83), [], []⟩
def fn : List He.DefD := (([d_is_row, d_is_integer, d_is_name, d_is_character, d_is_written, d_is_word, d_is_plain, d_is_row_of_parts, d_is_within, d_frozen, d_parts_of, d_count_of, d_are_params, d_has_head, d_body_fault, d_is_constant, d_is_right_for, d_is_instruction, d_are_entries, d_Code___init__, d_Code_program, d_Code_entry, d_Code_rows, d_Code___len__, d_Code___eq__, d_landing, d_straight, d_straightened, d_reached_places, d_named_places] : List (He.DefD)) ++ ([d_is_quiet, d_fence_places, d_is_free, d_idle_places, d_kept_places, d_closed_up, d_shorter, d_shortened, d_Program___init__, d_Program_names, d_Program_procedure, d_Program___eq__, d__law_source, d__law_mixed, d__law_draw, d__law_many, d__law_one, d__law_constant, d__law_deed, d__law_chunk, d__law_code, d__law_line, d__law_next, d__law_all_reached, d__law_is_ring, d__law_tidy, d_law] : List (He.DefD)))
def fa : List He.Fa := (([.glo "ALONE", .glo "COPIED", .glo "Code", .glo "DEED_COUNTS", .glo "ENDING", .glo "LEAVING", .glo "LOOK_DEEDS", .glo "NAMED", .glo "NoCode", .glo "NoName", .glo "NoProgram", .glo "OPERATORS", .glo "PLACED_codes", .glo "PLACED_shortening", .glo "PUTTING", .glo "Program", .glo "QUIET", .glo "ROW_COUNTS", .glo "SHAPES", .glo "SURE_DEEDS", .glo "TESTS", .glo "TriedError", .glo "WORDS", .glo "_law_all_reached", .glo "_law_chunk", .glo "_law_code", .glo "_law_constant", .glo "_law_deed", .glo "_law_draw", .glo "_law_is_ring"] : List (He.Fa)) ++ (([.glo "_law_line", .glo "_law_many", .glo "_law_mixed", .glo "_law_next", .glo "_law_one", .glo "_law_source", .glo "_law_tidy", .glo "are_entries", .glo "are_params", .glo "body_fault", .glo "closed_up", .glo "count_of", .glo "fence_places", .glo "frozen", .glo "has_head", .glo "idle_places", .glo "is_character", .glo "is_constant", .glo "is_free", .glo "is_instruction", .glo "is_integer", .glo "is_name", .glo "is_plain", .glo "is_quiet", .glo "is_right_for", .glo "is_row", .glo "is_row_of_parts", .glo "is_within", .glo "is_word", .glo "is_written"] : List (He.Fa)) ++ (([.glo "kept_places", .glo "landing", .glo "law", .glo "named_places", .glo "parts_of", .glo "reached_places", .glo "shortened", .glo "shorter", .glo "straight", .glo "straightened", .free "ValueError", .free "all", .free "bool", .free "dict", .free "int", .free "isinstance", .free "len", .free "list", .free "ord", .free "range", .free "str", .free "super", .free "tuple", .int "DEEPEST" (8), .int "MOST_ROWS" (8), .int "MOST_EXPRESSIONS" (200), .int "MOST_INSTRUCTIONS" (9000), .int "MOST_TICKS" (20), .int "MOST_PROCEDURES" (6), .str "ROWS" "lda"] : List (He.Fa)) ++ ([.cls "Code", .noat "Code" "owner", .noat "Code" "starts", .noat "Code" "lines", .meth "Code" "program", .meth "Code" "entry", .meth "Code" "rows", .meth "Code" "__len__", .meth "Code" "__eq__", .mkr "Code", .cls "Program", .noat "Program" "procedures", .meth "Program" "names", .meth "Program" "procedure", .meth "Program" "__eq__", .mkr "Program"] : List (He.Fa)))))
def keys_SHAPES : List Str := ((["nothing", "number", "text", "name", "list", "op", "test", "or", "and", "first", "no", "if", "most", "again", "to", "items", "give", "lend", "every", "while", "do", "call", "back", "out", "fall", "keep", "ask", "anew", "scan", "move"] : List (Str)) ++ (["tab", "find", "reach", "many", "match", "here", "put", "take", "size", "at", "place", "say"] : List (Str)))
def keys_DEED_COUNTS : List Str := (["+", "-", "*", "/", "mod", ".", "<", "<=", "=", "<>", "is", "isnt", "put", "take", "size", "at", "place", "say", "here", "move", "tab", "many", "match", "anew"] : List (Str))
def keys_ROW_COUNTS : List Str := (["to", "items", "find", "reach"] : List (Str))
def tabs : List He.Tab := [(fun K => He.ga K "SHAPES", keys_SHAPES), (fun K => He.ga K "DEED_COUNTS", keys_DEED_COUNTS), (fun K => He.ga K "ROW_COUNTS", keys_ROW_COUNTS)]
def tdv_WORDS : List He.Dv := (([.str "nothing", .str "first", .str "no", .str "if", .str "most", .str "again", .str "to", .str "items", .str "every", .str "while", .str "do", .str "call", .str "back", .str "out", .str "fall", .str "keep", .str "ask", .str "anew", .str "scan", .str "move", .str "tab", .str "find", .str "reach", .str "many", .str "match", .str "here", .str "put", .str "take", .str "size", .str "at"] : List (He.Dv)) ++ ([.str "place", .str "say", .str "is", .str "isnt", .str "list", .str "mod"] : List (He.Dv)))
def tv_WORDS : List V := (([.str "nothing", .str "first", .str "no", .str "if", .str "most", .str "again", .str "to", .str "items", .str "every", .str "while", .str "do", .str "call", .str "back", .str "out", .str "fall", .str "keep", .str "ask", .str "anew", .str "scan", .str "move", .str "tab", .str "find", .str "reach", .str "many", .str "match", .str "here", .str "put", .str "take", .str "size", .str "at"] : List (V)) ++ ([.str "place", .str "say", .str "is", .str "isnt", .str "list", .str "mod"] : List (V)))
def tdv_OPERATORS : List He.Dv := ([.str "+", .str "-", .str "*", .str "/", .str "mod", .str "."] : List (He.Dv))
def tv_OPERATORS : List V := ([.str "+", .str "-", .str "*", .str "/", .str "mod", .str "."] : List (V))
def tdv_TESTS : List He.Dv := ([.str "<", .str "<=", .str "=", .str "<>", .str "is", .str "isnt"] : List (He.Dv))
def tv_TESTS : List V := ([.str "<", .str "<=", .str "=", .str "<>", .str "is", .str "isnt"] : List (V))
def tdv_LEAVING : List He.Dv := ([.str "back", .str "out", .str "fall"] : List (He.Dv))
def tv_LEAVING : List V := ([.str "back", .str "out", .str "fall"] : List (V))
def tdv_ALONE : List He.Dv := ([.str "drop", .str "fail", .str "open", .str "shut", .str "counter", .str "mark", .str "back", .str "out", .str "fall", .str "yield", .str "ask", .str "scan", .str "leave"] : List (He.Dv))
def tv_ALONE : List V := ([.str "drop", .str "fail", .str "open", .str "shut", .str "counter", .str "mark", .str "back", .str "out", .str "fall", .str "yield", .str "ask", .str "scan", .str "leave"] : List (V))
def tdv_PLACED_codes : List He.Dv := ([.str "jump", .str "retry", .str "any", .str "keep"] : List (He.Dv))
def tv_PLACED_codes : List V := ([.str "jump", .str "retry", .str "any", .str "keep"] : List (V))
def tdv_NAMED : List He.Dv := ([.str "name", .str "give", .str "lend"] : List (He.Dv))
def tv_NAMED : List V := ([.str "name", .str "give", .str "lend"] : List (V))
def tdv_PLACED_shortening : List He.Dv := ([.str "jump", .str "retry", .str "any", .str "keep"] : List (He.Dv))
def tv_PLACED_shortening : List V := ([.str "jump", .str "retry", .str "any", .str "keep"] : List (V))
def tdv_ENDING : List He.Dv := ([.str "jump", .str "any", .str "fail", .str "back", .str "fall", .str "yield"] : List (He.Dv))
def tv_ENDING : List V := ([.str "jump", .str "any", .str "fail", .str "back", .str "fall", .str "yield"] : List (V))
def tdv_COPIED : List He.Dv := ([.str "fail", .str "back", .str "fall", .str "yield"] : List (He.Dv))
def tv_COPIED : List V := ([.str "fail", .str "back", .str "fall", .str "yield"] : List (V))
def tdv_PUTTING : List He.Dv := ([.str "worth", .str "name", .str "counter"] : List (He.Dv))
def tv_PUTTING : List V := ([.str "worth", .str "name", .str "counter"] : List (V))
def tdv_QUIET : List He.Dv := ([.str "worth", .str "name", .str "give", .str "drop", .str "list", .str "counter", .str "mark"] : List (He.Dv))
def tv_QUIET : List V := ([.str "worth", .str "name", .str "give", .str "drop", .str "list", .str "counter", .str "mark"] : List (V))
def tdv_SURE_DEEDS : List He.Dv := ([.str "+", .str "-", .str "*", .str ".", .str "put", .str "size", .str "say", .str "here", .str "anew"] : List (He.Dv))
def tv_SURE_DEEDS : List V := ([.str "+", .str "-", .str "*", .str ".", .str "put", .str "size", .str "say", .str "here", .str "anew"] : List (V))
def tdv_LOOK_DEEDS : List He.Dv := ([.str "move", .str "tab"] : List (He.Dv))
def tv_LOOK_DEEDS : List V := ([.str "move", .str "tab"] : List (V))
def tups : List (Str × List He.Dv) := [("WORDS", tdv_WORDS), ("OPERATORS", tdv_OPERATORS), ("TESTS", tdv_TESTS), ("LEAVING", tdv_LEAVING), ("ALONE", tdv_ALONE), ("PLACED_codes", tdv_PLACED_codes), ("NAMED", tdv_NAMED), ("PLACED_shortening", tdv_PLACED_shortening), ("ENDING", tdv_ENDING), ("COPIED", tdv_COPIED), ("PUTTING", tdv_PUTTING), ("QUIET", tdv_QUIET), ("SURE_DEEDS", tdv_SURE_DEEDS), ("LOOK_DEEDS", tdv_LOOK_DEEDS)]
def kvs_SHAPES : List (Str × He.Dv) := (([("nothing", .str ""), ("number", .str "n"), ("text", .str "t"), ("name", .str "x"), ("list", .str "l"), ("op", .str "oee"), ("test", .str "cee"), ("or", .str "ee"), ("and", .str "ee"), ("first", .str "e"), ("no", .str "e"), ("if", .str "eee"), ("most", .str "me"), ("again", .str "e"), ("to", .str "ee"), ("items", .str "e"), ("give", .str "xe"), ("lend", .str "xe"), ("every", .str "ee"), ("while", .str "ee"), ("do", .str "d"), ("call", .str "ea"), ("back", .str "e"), ("out", .str "e"), ("fall", .str ""), ("keep", .str "e"), ("ask", .str "e"), ("anew", .str "e"), ("scan", .str "ee"), ("move", .str "e")] : List (Str × He.Dv)) ++ ([("tab", .str "e"), ("find", .str "e"), ("reach", .str "e"), ("many", .str "e"), ("match", .str "e"), ("here", .str ""), ("put", .str "ee"), ("take", .str "e"), ("size", .str "e"), ("at", .str "ee"), ("place", .str "eee"), ("say", .str "e")] : List (Str × He.Dv)))
def kvs_DEED_COUNTS : List (Str × He.Dv) := ([("+", .int 2), ("-", .int 2), ("*", .int 2), ("/", .int 2), ("mod", .int 2), (".", .int 2), ("<", .int 2), ("<=", .int 2), ("=", .int 2), ("<>", .int 2), ("is", .int 2), ("isnt", .int 2), ("put", .int 2), ("take", .int 1), ("size", .int 1), ("at", .int 2), ("place", .int 3), ("say", .int 1), ("here", .int 0), ("move", .int 1), ("tab", .int 1), ("many", .int 1), ("match", .int 1), ("anew", .int 1)] : List (Str × He.Dv))
def kvs_ROW_COUNTS : List (Str × He.Dv) := ([("to", .int 2), ("items", .int 1), ("find", .int 1), ("reach", .int 1)] : List (Str × He.Dv))
def tvals : List (Str × List (Str × He.Dv)) := [("SHAPES", kvs_SHAPES), ("DEED_COUNTS", kvs_DEED_COUNTS), ("ROW_COUNTS", kvs_ROW_COUNTS)]
def clss : List Str := ["Code", "Program"]
def clsB (K : PySem.W.Frag) (C : Addr) : Bool := He.eqO (PySem.W.findIn K (.ref C) "__class__") (some (some (.builtin "object.__class__"))) && (He.eqO (PySem.W.specialIn K (.builtin "object.__class__") "__get__") (some (some (.builtin "getset_descriptor.__get__"))) && (decide (PySem.W.takesIn K (.builtin "object.__class__") = some true) && decide (PySem.W.mroIn K C (.type "object") = some true)))
def more (K : PySem.W.Frag) : Bool := (tups.all fun t => He.tupB K t.1 t.2) && ((tvals.all fun t => He.valsB K (He.ga K t.1) t.2) && clss.all fun c => clsB K (He.ga K c) && He.eqO (PySem.W.findIn K (.ref (He.ga K c)) "__ne__") (some (some (.builtin "object.__ne__"))))
structure Md (w : World) (K : PySem.W.Frag) (mg : Str → Option Value) : Prop where
  kg : ∃ h : Heap, K.In h ∧ h.Ns mainGlobals mg
  c : He.SaysT fa fn tabs w K
  m : more K = true
section
variable {w : World} {K : PySem.W.Frag} {mg : Str → Option Value}
theorem Md.fact (M : Md w K mg) (i : Nat) {f : He.Fa} (h : fa[i]? = some f := by rfl) : f.ok K = true := M.c.d.fact i h
theorem Md.tup (M : Md w K mg) (i : Nat) {x : Str} {vs : List He.Dv} (h : tups[i]? = some (x, vs)) (H : Hp) : SqT K H (He.ga K x) (vs.map (He.Dv.v K)) :=
  He.tupB_ok (List.all_eq_true.mp (He.ba M.m).1 (x, vs) (List.mem_of_getElem? h)) H
theorem Md.tval (M : Md w K mg) (i : Nat) {x : Str} {vs : List (Str × He.Dv)} (h : tvals[i]? = some (x, vs)) : He.valsB K (He.ga K x) vs = true :=
  List.all_eq_true.mp (He.ba (He.ba M.m).2).1 (x, vs) (List.mem_of_getElem? h)
theorem Md.clsx (M : Md w K mg) (i : Nat) {x : Str} (h : clss[i]? = some x) : clsB K (He.ga K x) = true := (He.ba (List.all_eq_true.mp (He.ba (He.ba M.m).2).2 x (List.mem_of_getElem? h))).1
theorem Md.nex (M : Md w K mg) (i : Nat) {x : Str} (h : clss[i]? = some x) : PySem.W.findIn K (.ref (He.ga K x)) "__ne__" = some (some (.builtin "object.__ne__")) := He.eqO_ok (He.ba (List.all_eq_true.mp (He.ba (He.ba M.m).2).2 x (List.mem_of_getElem? h))).2
theorem Md.gl_ALONE (M : Md w K mg) : mg "ALONE" = some (.ref (He.ga K "ALONE")) := let ⟨_, X, G⟩ := M.kg; He.glo_ok X G (M.fact 0 (f := .glo "ALONE") rfl)
theorem Md.gl_COPIED (M : Md w K mg) : mg "COPIED" = some (.ref (He.ga K "COPIED")) := let ⟨_, X, G⟩ := M.kg; He.glo_ok X G (M.fact 1 (f := .glo "COPIED") rfl)
theorem Md.gl_Code (M : Md w K mg) : mg "Code" = some (.ref (He.ga K "Code")) := let ⟨_, X, G⟩ := M.kg; He.glo_ok X G (M.fact 2 (f := .glo "Code") rfl)
theorem Md.gl_DEED_COUNTS (M : Md w K mg) : mg "DEED_COUNTS" = some (.ref (He.ga K "DEED_COUNTS")) := let ⟨_, X, G⟩ := M.kg; He.glo_ok X G (M.fact 3 (f := .glo "DEED_COUNTS") rfl)
theorem Md.gl_ENDING (M : Md w K mg) : mg "ENDING" = some (.ref (He.ga K "ENDING")) := let ⟨_, X, G⟩ := M.kg; He.glo_ok X G (M.fact 4 (f := .glo "ENDING") rfl)
theorem Md.gl_LEAVING (M : Md w K mg) : mg "LEAVING" = some (.ref (He.ga K "LEAVING")) := let ⟨_, X, G⟩ := M.kg; He.glo_ok X G (M.fact 5 (f := .glo "LEAVING") rfl)
theorem Md.gl_LOOK_DEEDS (M : Md w K mg) : mg "LOOK_DEEDS" = some (.ref (He.ga K "LOOK_DEEDS")) := let ⟨_, X, G⟩ := M.kg; He.glo_ok X G (M.fact 6 (f := .glo "LOOK_DEEDS") rfl)
theorem Md.gl_NAMED (M : Md w K mg) : mg "NAMED" = some (.ref (He.ga K "NAMED")) := let ⟨_, X, G⟩ := M.kg; He.glo_ok X G (M.fact 7 (f := .glo "NAMED") rfl)
theorem Md.gl_NoCode (M : Md w K mg) : mg "NoCode" = some (.ref (He.ga K "NoCode")) := let ⟨_, X, G⟩ := M.kg; He.glo_ok X G (M.fact 8 (f := .glo "NoCode") rfl)
theorem Md.gl_NoName (M : Md w K mg) : mg "NoName" = some (.ref (He.ga K "NoName")) := let ⟨_, X, G⟩ := M.kg; He.glo_ok X G (M.fact 9 (f := .glo "NoName") rfl)
theorem Md.gl_NoProgram (M : Md w K mg) : mg "NoProgram" = some (.ref (He.ga K "NoProgram")) := let ⟨_, X, G⟩ := M.kg; He.glo_ok X G (M.fact 10 (f := .glo "NoProgram") rfl)
theorem Md.gl_OPERATORS (M : Md w K mg) : mg "OPERATORS" = some (.ref (He.ga K "OPERATORS")) := let ⟨_, X, G⟩ := M.kg; He.glo_ok X G (M.fact 11 (f := .glo "OPERATORS") rfl)
theorem Md.gl_PLACED_codes (M : Md w K mg) : mg "PLACED_codes" = some (.ref (He.ga K "PLACED_codes")) := let ⟨_, X, G⟩ := M.kg; He.glo_ok X G (M.fact 12 (f := .glo "PLACED_codes") rfl)
theorem Md.gl_PLACED_shortening (M : Md w K mg) : mg "PLACED_shortening" = some (.ref (He.ga K "PLACED_shortening")) := let ⟨_, X, G⟩ := M.kg; He.glo_ok X G (M.fact 13 (f := .glo "PLACED_shortening") rfl)
theorem Md.gl_PUTTING (M : Md w K mg) : mg "PUTTING" = some (.ref (He.ga K "PUTTING")) := let ⟨_, X, G⟩ := M.kg; He.glo_ok X G (M.fact 14 (f := .glo "PUTTING") rfl)
theorem Md.gl_Program (M : Md w K mg) : mg "Program" = some (.ref (He.ga K "Program")) := let ⟨_, X, G⟩ := M.kg; He.glo_ok X G (M.fact 15 (f := .glo "Program") rfl)
theorem Md.gl_QUIET (M : Md w K mg) : mg "QUIET" = some (.ref (He.ga K "QUIET")) := let ⟨_, X, G⟩ := M.kg; He.glo_ok X G (M.fact 16 (f := .glo "QUIET") rfl)
theorem Md.gl_ROW_COUNTS (M : Md w K mg) : mg "ROW_COUNTS" = some (.ref (He.ga K "ROW_COUNTS")) := let ⟨_, X, G⟩ := M.kg; He.glo_ok X G (M.fact 17 (f := .glo "ROW_COUNTS") rfl)
theorem Md.gl_SHAPES (M : Md w K mg) : mg "SHAPES" = some (.ref (He.ga K "SHAPES")) := let ⟨_, X, G⟩ := M.kg; He.glo_ok X G (M.fact 18 (f := .glo "SHAPES") rfl)
theorem Md.gl_SURE_DEEDS (M : Md w K mg) : mg "SURE_DEEDS" = some (.ref (He.ga K "SURE_DEEDS")) := let ⟨_, X, G⟩ := M.kg; He.glo_ok X G (M.fact 19 (f := .glo "SURE_DEEDS") rfl)
theorem Md.gl_TESTS (M : Md w K mg) : mg "TESTS" = some (.ref (He.ga K "TESTS")) := let ⟨_, X, G⟩ := M.kg; He.glo_ok X G (M.fact 20 (f := .glo "TESTS") rfl)
theorem Md.gl_TriedError (M : Md w K mg) : mg "TriedError" = some (.ref (He.ga K "TriedError")) := let ⟨_, X, G⟩ := M.kg; He.glo_ok X G (M.fact 21 (f := .glo "TriedError") rfl)
theorem Md.gl_WORDS (M : Md w K mg) : mg "WORDS" = some (.ref (He.ga K "WORDS")) := let ⟨_, X, G⟩ := M.kg; He.glo_ok X G (M.fact 22 (f := .glo "WORDS") rfl)
theorem Md.gl__law_all_reached (M : Md w K mg) : mg "_law_all_reached" = some (.ref (He.ga K "_law_all_reached")) := let ⟨_, X, G⟩ := M.kg; He.glo_ok X G (M.fact 23 (f := .glo "_law_all_reached") rfl)
theorem Md.gl__law_chunk (M : Md w K mg) : mg "_law_chunk" = some (.ref (He.ga K "_law_chunk")) := let ⟨_, X, G⟩ := M.kg; He.glo_ok X G (M.fact 24 (f := .glo "_law_chunk") rfl)
theorem Md.gl__law_code (M : Md w K mg) : mg "_law_code" = some (.ref (He.ga K "_law_code")) := let ⟨_, X, G⟩ := M.kg; He.glo_ok X G (M.fact 25 (f := .glo "_law_code") rfl)
theorem Md.gl__law_constant (M : Md w K mg) : mg "_law_constant" = some (.ref (He.ga K "_law_constant")) := let ⟨_, X, G⟩ := M.kg; He.glo_ok X G (M.fact 26 (f := .glo "_law_constant") rfl)
theorem Md.gl__law_deed (M : Md w K mg) : mg "_law_deed" = some (.ref (He.ga K "_law_deed")) := let ⟨_, X, G⟩ := M.kg; He.glo_ok X G (M.fact 27 (f := .glo "_law_deed") rfl)
theorem Md.gl__law_draw (M : Md w K mg) : mg "_law_draw" = some (.ref (He.ga K "_law_draw")) := let ⟨_, X, G⟩ := M.kg; He.glo_ok X G (M.fact 28 (f := .glo "_law_draw") rfl)
theorem Md.gl__law_is_ring (M : Md w K mg) : mg "_law_is_ring" = some (.ref (He.ga K "_law_is_ring")) := let ⟨_, X, G⟩ := M.kg; He.glo_ok X G (M.fact 29 (f := .glo "_law_is_ring") rfl)
theorem Md.gl__law_line (M : Md w K mg) : mg "_law_line" = some (.ref (He.ga K "_law_line")) := let ⟨_, X, G⟩ := M.kg; He.glo_ok X G (M.fact 30 (f := .glo "_law_line") rfl)
theorem Md.gl__law_many (M : Md w K mg) : mg "_law_many" = some (.ref (He.ga K "_law_many")) := let ⟨_, X, G⟩ := M.kg; He.glo_ok X G (M.fact 31 (f := .glo "_law_many") rfl)
theorem Md.gl__law_mixed (M : Md w K mg) : mg "_law_mixed" = some (.ref (He.ga K "_law_mixed")) := let ⟨_, X, G⟩ := M.kg; He.glo_ok X G (M.fact 32 (f := .glo "_law_mixed") rfl)
theorem Md.gl__law_next (M : Md w K mg) : mg "_law_next" = some (.ref (He.ga K "_law_next")) := let ⟨_, X, G⟩ := M.kg; He.glo_ok X G (M.fact 33 (f := .glo "_law_next") rfl)
theorem Md.gl__law_one (M : Md w K mg) : mg "_law_one" = some (.ref (He.ga K "_law_one")) := let ⟨_, X, G⟩ := M.kg; He.glo_ok X G (M.fact 34 (f := .glo "_law_one") rfl)
theorem Md.gl__law_source (M : Md w K mg) : mg "_law_source" = some (.ref (He.ga K "_law_source")) := let ⟨_, X, G⟩ := M.kg; He.glo_ok X G (M.fact 35 (f := .glo "_law_source") rfl)
theorem Md.gl__law_tidy (M : Md w K mg) : mg "_law_tidy" = some (.ref (He.ga K "_law_tidy")) := let ⟨_, X, G⟩ := M.kg; He.glo_ok X G (M.fact 36 (f := .glo "_law_tidy") rfl)
theorem Md.gl_are_entries (M : Md w K mg) : mg "are_entries" = some (.ref (He.ga K "are_entries")) := let ⟨_, X, G⟩ := M.kg; He.glo_ok X G (M.fact 37 (f := .glo "are_entries") rfl)
theorem Md.gl_are_params (M : Md w K mg) : mg "are_params" = some (.ref (He.ga K "are_params")) := let ⟨_, X, G⟩ := M.kg; He.glo_ok X G (M.fact 38 (f := .glo "are_params") rfl)
theorem Md.gl_body_fault (M : Md w K mg) : mg "body_fault" = some (.ref (He.ga K "body_fault")) := let ⟨_, X, G⟩ := M.kg; He.glo_ok X G (M.fact 39 (f := .glo "body_fault") rfl)
theorem Md.gl_closed_up (M : Md w K mg) : mg "closed_up" = some (.ref (He.ga K "closed_up")) := let ⟨_, X, G⟩ := M.kg; He.glo_ok X G (M.fact 40 (f := .glo "closed_up") rfl)
theorem Md.gl_count_of (M : Md w K mg) : mg "count_of" = some (.ref (He.ga K "count_of")) := let ⟨_, X, G⟩ := M.kg; He.glo_ok X G (M.fact 41 (f := .glo "count_of") rfl)
theorem Md.gl_fence_places (M : Md w K mg) : mg "fence_places" = some (.ref (He.ga K "fence_places")) := let ⟨_, X, G⟩ := M.kg; He.glo_ok X G (M.fact 42 (f := .glo "fence_places") rfl)
theorem Md.gl_frozen (M : Md w K mg) : mg "frozen" = some (.ref (He.ga K "frozen")) := let ⟨_, X, G⟩ := M.kg; He.glo_ok X G (M.fact 43 (f := .glo "frozen") rfl)
theorem Md.gl_has_head (M : Md w K mg) : mg "has_head" = some (.ref (He.ga K "has_head")) := let ⟨_, X, G⟩ := M.kg; He.glo_ok X G (M.fact 44 (f := .glo "has_head") rfl)
theorem Md.gl_idle_places (M : Md w K mg) : mg "idle_places" = some (.ref (He.ga K "idle_places")) := let ⟨_, X, G⟩ := M.kg; He.glo_ok X G (M.fact 45 (f := .glo "idle_places") rfl)
theorem Md.gl_is_character (M : Md w K mg) : mg "is_character" = some (.ref (He.ga K "is_character")) := let ⟨_, X, G⟩ := M.kg; He.glo_ok X G (M.fact 46 (f := .glo "is_character") rfl)
theorem Md.gl_is_constant (M : Md w K mg) : mg "is_constant" = some (.ref (He.ga K "is_constant")) := let ⟨_, X, G⟩ := M.kg; He.glo_ok X G (M.fact 47 (f := .glo "is_constant") rfl)
theorem Md.gl_is_free (M : Md w K mg) : mg "is_free" = some (.ref (He.ga K "is_free")) := let ⟨_, X, G⟩ := M.kg; He.glo_ok X G (M.fact 48 (f := .glo "is_free") rfl)
theorem Md.gl_is_instruction (M : Md w K mg) : mg "is_instruction" = some (.ref (He.ga K "is_instruction")) := let ⟨_, X, G⟩ := M.kg; He.glo_ok X G (M.fact 49 (f := .glo "is_instruction") rfl)
theorem Md.gl_is_integer (M : Md w K mg) : mg "is_integer" = some (.ref (He.ga K "is_integer")) := let ⟨_, X, G⟩ := M.kg; He.glo_ok X G (M.fact 50 (f := .glo "is_integer") rfl)
theorem Md.gl_is_name (M : Md w K mg) : mg "is_name" = some (.ref (He.ga K "is_name")) := let ⟨_, X, G⟩ := M.kg; He.glo_ok X G (M.fact 51 (f := .glo "is_name") rfl)
theorem Md.gl_is_plain (M : Md w K mg) : mg "is_plain" = some (.ref (He.ga K "is_plain")) := let ⟨_, X, G⟩ := M.kg; He.glo_ok X G (M.fact 52 (f := .glo "is_plain") rfl)
theorem Md.gl_is_quiet (M : Md w K mg) : mg "is_quiet" = some (.ref (He.ga K "is_quiet")) := let ⟨_, X, G⟩ := M.kg; He.glo_ok X G (M.fact 53 (f := .glo "is_quiet") rfl)
theorem Md.gl_is_right_for (M : Md w K mg) : mg "is_right_for" = some (.ref (He.ga K "is_right_for")) := let ⟨_, X, G⟩ := M.kg; He.glo_ok X G (M.fact 54 (f := .glo "is_right_for") rfl)
theorem Md.gl_is_row (M : Md w K mg) : mg "is_row" = some (.ref (He.ga K "is_row")) := let ⟨_, X, G⟩ := M.kg; He.glo_ok X G (M.fact 55 (f := .glo "is_row") rfl)
theorem Md.gl_is_row_of_parts (M : Md w K mg) : mg "is_row_of_parts" = some (.ref (He.ga K "is_row_of_parts")) := let ⟨_, X, G⟩ := M.kg; He.glo_ok X G (M.fact 56 (f := .glo "is_row_of_parts") rfl)
theorem Md.gl_is_within (M : Md w K mg) : mg "is_within" = some (.ref (He.ga K "is_within")) := let ⟨_, X, G⟩ := M.kg; He.glo_ok X G (M.fact 57 (f := .glo "is_within") rfl)
theorem Md.gl_is_word (M : Md w K mg) : mg "is_word" = some (.ref (He.ga K "is_word")) := let ⟨_, X, G⟩ := M.kg; He.glo_ok X G (M.fact 58 (f := .glo "is_word") rfl)
theorem Md.gl_is_written (M : Md w K mg) : mg "is_written" = some (.ref (He.ga K "is_written")) := let ⟨_, X, G⟩ := M.kg; He.glo_ok X G (M.fact 59 (f := .glo "is_written") rfl)
theorem Md.gl_kept_places (M : Md w K mg) : mg "kept_places" = some (.ref (He.ga K "kept_places")) := let ⟨_, X, G⟩ := M.kg; He.glo_ok X G (M.fact 60 (f := .glo "kept_places") rfl)
theorem Md.gl_landing (M : Md w K mg) : mg "landing" = some (.ref (He.ga K "landing")) := let ⟨_, X, G⟩ := M.kg; He.glo_ok X G (M.fact 61 (f := .glo "landing") rfl)
theorem Md.gl_law (M : Md w K mg) : mg "law" = some (.ref (He.ga K "law")) := let ⟨_, X, G⟩ := M.kg; He.glo_ok X G (M.fact 62 (f := .glo "law") rfl)
theorem Md.gl_named_places (M : Md w K mg) : mg "named_places" = some (.ref (He.ga K "named_places")) := let ⟨_, X, G⟩ := M.kg; He.glo_ok X G (M.fact 63 (f := .glo "named_places") rfl)
theorem Md.gl_parts_of (M : Md w K mg) : mg "parts_of" = some (.ref (He.ga K "parts_of")) := let ⟨_, X, G⟩ := M.kg; He.glo_ok X G (M.fact 64 (f := .glo "parts_of") rfl)
theorem Md.gl_reached_places (M : Md w K mg) : mg "reached_places" = some (.ref (He.ga K "reached_places")) := let ⟨_, X, G⟩ := M.kg; He.glo_ok X G (M.fact 65 (f := .glo "reached_places") rfl)
theorem Md.gl_shortened (M : Md w K mg) : mg "shortened" = some (.ref (He.ga K "shortened")) := let ⟨_, X, G⟩ := M.kg; He.glo_ok X G (M.fact 66 (f := .glo "shortened") rfl)
theorem Md.gl_shorter (M : Md w K mg) : mg "shorter" = some (.ref (He.ga K "shorter")) := let ⟨_, X, G⟩ := M.kg; He.glo_ok X G (M.fact 67 (f := .glo "shorter") rfl)
theorem Md.gl_straight (M : Md w K mg) : mg "straight" = some (.ref (He.ga K "straight")) := let ⟨_, X, G⟩ := M.kg; He.glo_ok X G (M.fact 68 (f := .glo "straight") rfl)
theorem Md.gl_straightened (M : Md w K mg) : mg "straightened" = some (.ref (He.ga K "straightened")) := let ⟨_, X, G⟩ := M.kg; He.glo_ok X G (M.fact 69 (f := .glo "straightened") rfl)
theorem Md.fr_ValueError (M : Md w K mg) : mg "ValueError" = none := let ⟨_, X, G⟩ := M.kg; He.free_ok X G (M.fact 70 (f := .free "ValueError") rfl)
theorem Md.fr_all (M : Md w K mg) : mg "all" = none := let ⟨_, X, G⟩ := M.kg; He.free_ok X G (M.fact 71 (f := .free "all") rfl)
theorem Md.fr_bool (M : Md w K mg) : mg "bool" = none := let ⟨_, X, G⟩ := M.kg; He.free_ok X G (M.fact 72 (f := .free "bool") rfl)
theorem Md.fr_dict (M : Md w K mg) : mg "dict" = none := let ⟨_, X, G⟩ := M.kg; He.free_ok X G (M.fact 73 (f := .free "dict") rfl)
theorem Md.fr_int (M : Md w K mg) : mg "int" = none := let ⟨_, X, G⟩ := M.kg; He.free_ok X G (M.fact 74 (f := .free "int") rfl)
theorem Md.fr_isinstance (M : Md w K mg) : mg "isinstance" = none := let ⟨_, X, G⟩ := M.kg; He.free_ok X G (M.fact 75 (f := .free "isinstance") rfl)
theorem Md.fr_len (M : Md w K mg) : mg "len" = none := let ⟨_, X, G⟩ := M.kg; He.free_ok X G (M.fact 76 (f := .free "len") rfl)
theorem Md.fr_list (M : Md w K mg) : mg "list" = none := let ⟨_, X, G⟩ := M.kg; He.free_ok X G (M.fact 77 (f := .free "list") rfl)
theorem Md.fr_ord (M : Md w K mg) : mg "ord" = none := let ⟨_, X, G⟩ := M.kg; He.free_ok X G (M.fact 78 (f := .free "ord") rfl)
theorem Md.fr_range (M : Md w K mg) : mg "range" = none := let ⟨_, X, G⟩ := M.kg; He.free_ok X G (M.fact 79 (f := .free "range") rfl)
theorem Md.fr_str (M : Md w K mg) : mg "str" = none := let ⟨_, X, G⟩ := M.kg; He.free_ok X G (M.fact 80 (f := .free "str") rfl)
theorem Md.fr_super (M : Md w K mg) : mg "super" = none := let ⟨_, X, G⟩ := M.kg; He.free_ok X G (M.fact 81 (f := .free "super") rfl)
theorem Md.fr_tuple (M : Md w K mg) : mg "tuple" = none := let ⟨_, X, G⟩ := M.kg; He.free_ok X G (M.fact 82 (f := .free "tuple") rfl)
theorem Md.in_DEEPEST (M : Md w K mg) : ∃ t, mg "DEEPEST" = some (.int (8) t) := let ⟨_, X, G⟩ := M.kg; He.int_ok X G (M.fact 83 (f := .int "DEEPEST" (8)) rfl)
theorem Md.in_MOST_ROWS (M : Md w K mg) : ∃ t, mg "MOST_ROWS" = some (.int (8) t) := let ⟨_, X, G⟩ := M.kg; He.int_ok X G (M.fact 84 (f := .int "MOST_ROWS" (8)) rfl)
theorem Md.in_MOST_EXPRESSIONS (M : Md w K mg) : ∃ t, mg "MOST_EXPRESSIONS" = some (.int (200) t) := let ⟨_, X, G⟩ := M.kg; He.int_ok X G (M.fact 85 (f := .int "MOST_EXPRESSIONS" (200)) rfl)
theorem Md.in_MOST_INSTRUCTIONS (M : Md w K mg) : ∃ t, mg "MOST_INSTRUCTIONS" = some (.int (9000) t) := let ⟨_, X, G⟩ := M.kg; He.int_ok X G (M.fact 86 (f := .int "MOST_INSTRUCTIONS" (9000)) rfl)
theorem Md.in_MOST_TICKS (M : Md w K mg) : ∃ t, mg "MOST_TICKS" = some (.int (20) t) := let ⟨_, X, G⟩ := M.kg; He.int_ok X G (M.fact 87 (f := .int "MOST_TICKS" (20)) rfl)
theorem Md.in_MOST_PROCEDURES (M : Md w K mg) : ∃ t, mg "MOST_PROCEDURES" = some (.int (6) t) := let ⟨_, X, G⟩ := M.kg; He.int_ok X G (M.fact 88 (f := .int "MOST_PROCEDURES" (6)) rfl)
theorem Md.st_ROWS (M : Md w K mg) : ∃ t, mg "ROWS" = some (.str "lda" t) := let ⟨_, X, G⟩ := M.kg; He.str_ok X G (M.fact 89 (f := .str "ROWS" "lda") rfl)
theorem Md.cl_Code (M : Md w K mg) : Cls K (He.ga K "Code") := He.cls_ok (M.fact 90 (f := .cls "Code") rfl)
theorem Md.na_Code_owner (M : Md w K mg) : NoAttr K (He.ga K "Code") "owner" := He.noat_ok (M.fact 91 (f := .noat "Code" "owner") rfl)
theorem Md.na_Code_starts (M : Md w K mg) : NoAttr K (He.ga K "Code") "starts" := He.noat_ok (M.fact 92 (f := .noat "Code" "starts") rfl)
theorem Md.na_Code_lines (M : Md w K mg) : NoAttr K (He.ga K "Code") "lines" := He.noat_ok (M.fact 93 (f := .noat "Code" "lines") rfl)
theorem Md.me_Code_program (M : Md w K mg) : Meth K (He.ga K "Code") "program" (He.ma K (He.ga K "Code") "program") := He.meth_ok (M.fact 94 (f := .meth "Code" "program") rfl)
theorem Md.me_Code_entry (M : Md w K mg) : Meth K (He.ga K "Code") "entry" (He.ma K (He.ga K "Code") "entry") := He.meth_ok (M.fact 95 (f := .meth "Code" "entry") rfl)
theorem Md.me_Code_rows (M : Md w K mg) : Meth K (He.ga K "Code") "rows" (He.ma K (He.ga K "Code") "rows") := He.meth_ok (M.fact 96 (f := .meth "Code" "rows") rfl)
theorem Md.me_Code___len__ (M : Md w K mg) : Meth K (He.ga K "Code") "__len__" (He.ma K (He.ga K "Code") "__len__") := He.meth_ok (M.fact 97 (f := .meth "Code" "__len__") rfl)
theorem Md.me_Code___eq__ (M : Md w K mg) : Meth K (He.ga K "Code") "__eq__" (He.ma K (He.ga K "Code") "__eq__") := He.meth_ok (M.fact 98 (f := .meth "Code" "__eq__") rfl)
theorem Md.mk_Code (M : Md w K mg) : Mk K (He.ga K "Code") (He.ma K (He.ga K "Code") "__init__") := He.mkr_ok (M.fact 99 (f := .mkr "Code") rfl)
theorem Md.cl_Program (M : Md w K mg) : Cls K (He.ga K "Program") := He.cls_ok (M.fact 100 (f := .cls "Program") rfl)
theorem Md.na_Program_procedures (M : Md w K mg) : NoAttr K (He.ga K "Program") "procedures" := He.noat_ok (M.fact 101 (f := .noat "Program" "procedures") rfl)
theorem Md.me_Program_names (M : Md w K mg) : Meth K (He.ga K "Program") "names" (He.ma K (He.ga K "Program") "names") := He.meth_ok (M.fact 102 (f := .meth "Program" "names") rfl)
theorem Md.me_Program_procedure (M : Md w K mg) : Meth K (He.ga K "Program") "procedure" (He.ma K (He.ga K "Program") "procedure") := He.meth_ok (M.fact 103 (f := .meth "Program" "procedure") rfl)
theorem Md.me_Program___eq__ (M : Md w K mg) : Meth K (He.ga K "Program") "__eq__" (He.ma K (He.ga K "Program") "__eq__") := He.meth_ok (M.fact 104 (f := .meth "Program" "__eq__") rfl)
theorem Md.mk_Program (M : Md w K mg) : Mk K (He.ga K "Program") (He.ma K (He.ga K "Program") "__init__") := He.mkr_ok (M.fact 105 (f := .mkr "Program") rfl)
theorem Md.cx_Code (M : Md w K mg) : clsB K (He.ga K "Code") = true := M.clsx 0 rfl
theorem Md.cx_Program (M : Md w K mg) : clsB K (He.ga K "Program") = true := M.clsx 1 rfl
theorem Md.tp_WORDS (M : Md w K mg) (H : Hp) : SqT K H (He.ga K "WORDS") tv_WORDS := M.tup 0 (x := "WORDS") (vs := tdv_WORDS) rfl H
theorem Md.tp_OPERATORS (M : Md w K mg) (H : Hp) : SqT K H (He.ga K "OPERATORS") tv_OPERATORS := M.tup 1 (x := "OPERATORS") (vs := tdv_OPERATORS) rfl H
theorem Md.tp_TESTS (M : Md w K mg) (H : Hp) : SqT K H (He.ga K "TESTS") tv_TESTS := M.tup 2 (x := "TESTS") (vs := tdv_TESTS) rfl H
theorem Md.tp_LEAVING (M : Md w K mg) (H : Hp) : SqT K H (He.ga K "LEAVING") tv_LEAVING := M.tup 3 (x := "LEAVING") (vs := tdv_LEAVING) rfl H
theorem Md.tp_ALONE (M : Md w K mg) (H : Hp) : SqT K H (He.ga K "ALONE") tv_ALONE := M.tup 4 (x := "ALONE") (vs := tdv_ALONE) rfl H
theorem Md.tp_PLACED_codes (M : Md w K mg) (H : Hp) : SqT K H (He.ga K "PLACED_codes") tv_PLACED_codes := M.tup 5 (x := "PLACED_codes") (vs := tdv_PLACED_codes) rfl H
theorem Md.tp_NAMED (M : Md w K mg) (H : Hp) : SqT K H (He.ga K "NAMED") tv_NAMED := M.tup 6 (x := "NAMED") (vs := tdv_NAMED) rfl H
theorem Md.tp_PLACED_shortening (M : Md w K mg) (H : Hp) : SqT K H (He.ga K "PLACED_shortening") tv_PLACED_shortening := M.tup 7 (x := "PLACED_shortening") (vs := tdv_PLACED_shortening) rfl H
theorem Md.tp_ENDING (M : Md w K mg) (H : Hp) : SqT K H (He.ga K "ENDING") tv_ENDING := M.tup 8 (x := "ENDING") (vs := tdv_ENDING) rfl H
theorem Md.tp_COPIED (M : Md w K mg) (H : Hp) : SqT K H (He.ga K "COPIED") tv_COPIED := M.tup 9 (x := "COPIED") (vs := tdv_COPIED) rfl H
theorem Md.tp_PUTTING (M : Md w K mg) (H : Hp) : SqT K H (He.ga K "PUTTING") tv_PUTTING := M.tup 10 (x := "PUTTING") (vs := tdv_PUTTING) rfl H
theorem Md.tp_QUIET (M : Md w K mg) (H : Hp) : SqT K H (He.ga K "QUIET") tv_QUIET := M.tup 11 (x := "QUIET") (vs := tdv_QUIET) rfl H
theorem Md.tp_SURE_DEEDS (M : Md w K mg) (H : Hp) : SqT K H (He.ga K "SURE_DEEDS") tv_SURE_DEEDS := M.tup 12 (x := "SURE_DEEDS") (vs := tdv_SURE_DEEDS) rfl H
theorem Md.tp_LOOK_DEEDS (M : Md w K mg) (H : Hp) : SqT K H (He.ga K "LOOK_DEEDS") tv_LOOK_DEEDS := M.tup 13 (x := "LOOK_DEEDS") (vs := tdv_LOOK_DEEDS) rfl H
theorem Md.kd_SHAPES (M : Md w K mg) : ∃ es n, KDict K w (He.ga K "SHAPES") es n := M.c.tab 0 (t := (fun K => He.ga K "SHAPES", keys_SHAPES)) rfl
theorem Md.kv_SHAPES (M : Md w K mg) : He.valsB K (He.ga K "SHAPES") kvs_SHAPES = true := M.tval 0 (x := "SHAPES") rfl
theorem Md.kd_DEED_COUNTS (M : Md w K mg) : ∃ es n, KDict K w (He.ga K "DEED_COUNTS") es n := M.c.tab 1 (t := (fun K => He.ga K "DEED_COUNTS", keys_DEED_COUNTS)) rfl
theorem Md.kv_DEED_COUNTS (M : Md w K mg) : He.valsB K (He.ga K "DEED_COUNTS") kvs_DEED_COUNTS = true := M.tval 1 (x := "DEED_COUNTS") rfl
theorem Md.kd_ROW_COUNTS (M : Md w K mg) : ∃ es n, KDict K w (He.ga K "ROW_COUNTS") es n := M.c.tab 2 (t := (fun K => He.ga K "ROW_COUNTS", keys_ROW_COUNTS)) rfl
theorem Md.kv_ROW_COUNTS (M : Md w K mg) : He.valsB K (He.ga K "ROW_COUNTS") kvs_ROW_COUNTS = true := M.tval 2 (x := "ROW_COUNTS") rfl
theorem Md.fd_is_row (M : Md w K mg) : ∃ fd, FunD K "is_row" "is_row" (defArgs (top 10)) (defBody (top 10)) (defScope (top 10)) [] [] (He.fAd K d_is_row.at_) fd := M.c.d.def_ 0 (d := d_is_row) rfl
theorem Md.fd_is_integer (M : Md w K mg) : ∃ fd, FunD K "is_integer" "is_integer" (defArgs (top 11)) (defBody (top 11)) (defScope (top 11)) [] [] (He.fAd K d_is_integer.at_) fd := M.c.d.def_ 1 (d := d_is_integer) rfl
theorem Md.fd_is_name (M : Md w K mg) : ∃ fd, FunD K "is_name" "is_name" (defArgs (top 12)) (defBody (top 12)) (defScope (top 12)) [] [] (He.fAd K d_is_name.at_) fd := M.c.d.def_ 2 (d := d_is_name) rfl
theorem Md.fd_is_character (M : Md w K mg) : ∃ fd, FunD K "is_character" "is_character" (defArgs (top 13)) (defBody (top 13)) (defScope (top 13)) [] [] (He.fAd K d_is_character.at_) fd := M.c.d.def_ 3 (d := d_is_character) rfl
theorem Md.fd_is_written (M : Md w K mg) : ∃ fd, FunD K "is_written" "is_written" (defArgs (top 14)) (defBody (top 14)) (defScope (top 14)) [] [] (He.fAd K d_is_written.at_) fd := M.c.d.def_ 4 (d := d_is_written) rfl
theorem Md.fd_is_word (M : Md w K mg) : ∃ fd, FunD K "is_word" "is_word" (defArgs (top 15)) (defBody (top 15)) (defScope (top 15)) [] [] (He.fAd K d_is_word.at_) fd := M.c.d.def_ 5 (d := d_is_word) rfl
theorem Md.fd_is_plain (M : Md w K mg) : ∃ fd, FunD K "is_plain" "is_plain" (defArgs (top 16)) (defBody (top 16)) (defScope (top 16)) [] [] (He.fAd K d_is_plain.at_) fd := M.c.d.def_ 6 (d := d_is_plain) rfl
theorem Md.fd_is_row_of_parts (M : Md w K mg) : ∃ fd, FunD K "is_row_of_parts" "is_row_of_parts" (defArgs (top 17)) (defBody (top 17)) (defScope (top 17)) [] [] (He.fAd K d_is_row_of_parts.at_) fd := M.c.d.def_ 7 (d := d_is_row_of_parts) rfl
theorem Md.fd_is_within (M : Md w K mg) : ∃ fd, FunD K "is_within" "is_within" (defArgs (top 18)) (defBody (top 18)) (defScope (top 18)) [] [] (He.fAd K d_is_within.at_) fd := M.c.d.def_ 8 (d := d_is_within) rfl
theorem Md.fd_frozen (M : Md w K mg) : ∃ fd, FunD K "frozen" "frozen" (defArgs (top 19)) (defBody (top 19)) (defScope (top 19)) [] [] (He.fAd K d_frozen.at_) fd := M.c.d.def_ 9 (d := d_frozen) rfl
theorem Md.fd_parts_of (M : Md w K mg) : ∃ fd, FunD K "parts_of" "parts_of" (defArgs (top 20)) (defBody (top 20)) (defScope (top 20)) [] [] (He.fAd K d_parts_of.at_) fd := M.c.d.def_ 10 (d := d_parts_of) rfl
theorem Md.fd_count_of (M : Md w K mg) : ∃ fd, FunD K "count_of" "count_of" (defArgs (top 21)) (defBody (top 21)) (defScope (top 21)) [] [] (He.fAd K d_count_of.at_) fd := M.c.d.def_ 11 (d := d_count_of) rfl
theorem Md.fd_are_params (M : Md w K mg) : ∃ fd, FunD K "are_params" "are_params" (defArgs (top 22)) (defBody (top 22)) (defScope (top 22)) [] [] (He.fAd K d_are_params.at_) fd := M.c.d.def_ 12 (d := d_are_params) rfl
theorem Md.fd_has_head (M : Md w K mg) : ∃ fd, FunD K "has_head" "has_head" (defArgs (top 23)) (defBody (top 23)) (defScope (top 23)) [] [] (He.fAd K d_has_head.at_) fd := M.c.d.def_ 13 (d := d_has_head) rfl
theorem Md.fd_body_fault (M : Md w K mg) : ∃ fd, FunD K "body_fault" "body_fault" (defArgs (top 24)) (defBody (top 24)) (defScope (top 24)) [] [] (He.fAd K d_body_fault.at_) fd := M.c.d.def_ 14 (d := d_body_fault) rfl
theorem Md.fd_is_constant (M : Md w K mg) : ∃ fd, FunD K "is_constant" "is_constant" (defArgs (top 38)) (defBody (top 38)) (defScope (top 38)) [] [] (He.fAd K d_is_constant.at_) fd := M.c.d.def_ 15 (d := d_is_constant) rfl
theorem Md.fd_is_right_for (M : Md w K mg) : ∃ fd, FunD K "is_right_for" "is_right_for" (defArgs (top 39)) (defBody (top 39)) (defScope (top 39)) [] [] (He.fAd K d_is_right_for.at_) fd := M.c.d.def_ 16 (d := d_is_right_for) rfl
theorem Md.fd_is_instruction (M : Md w K mg) : ∃ fd, FunD K "is_instruction" "is_instruction" (defArgs (top 40)) (defBody (top 40)) (defScope (top 40)) [] [] (He.fAd K d_is_instruction.at_) fd := M.c.d.def_ 17 (d := d_is_instruction) rfl
theorem Md.fd_are_entries (M : Md w K mg) : ∃ fd, FunD K "are_entries" "are_entries" (defArgs (top 41)) (defBody (top 41)) (defScope (top 41)) [] [] (He.fAd K d_are_entries.at_) fd := M.c.d.def_ 18 (d := d_are_entries) rfl
theorem Md.fd_Code___init__ (M : Md w K mg) : ∃ fd, FunD K "__init__" "Code.__init__" (defArgs (inClass (top 42) 0)) (defBody (inClass (top 42) 0)) (defScope (inClass (top 42) 0)) [] [] (He.fAd K d_Code___init__.at_) fd := M.c.d.def_ 19 (d := d_Code___init__) rfl
theorem Md.fd_Code_program (M : Md w K mg) : ∃ fd, FunD K "program" "Code.program" (defArgs (inClass (top 42) 1)) (defBody (inClass (top 42) 1)) (defScope (inClass (top 42) 1)) [] [] (He.fAd K d_Code_program.at_) fd := M.c.d.def_ 20 (d := d_Code_program) rfl
theorem Md.fd_Code_entry (M : Md w K mg) : ∃ fd, FunD K "entry" "Code.entry" (defArgs (inClass (top 42) 2)) (defBody (inClass (top 42) 2)) (defScope (inClass (top 42) 2)) [] [] (He.fAd K d_Code_entry.at_) fd := M.c.d.def_ 21 (d := d_Code_entry) rfl
theorem Md.fd_Code_rows (M : Md w K mg) : ∃ fd, FunD K "rows" "Code.rows" (defArgs (inClass (top 42) 3)) (defBody (inClass (top 42) 3)) (defScope (inClass (top 42) 3)) [] [] (He.fAd K d_Code_rows.at_) fd := M.c.d.def_ 22 (d := d_Code_rows) rfl
theorem Md.fd_Code___len__ (M : Md w K mg) : ∃ fd, FunD K "__len__" "Code.__len__" (defArgs (inClass (top 42) 4)) (defBody (inClass (top 42) 4)) (defScope (inClass (top 42) 4)) [] [] (He.fAd K d_Code___len__.at_) fd := M.c.d.def_ 23 (d := d_Code___len__) rfl
theorem Md.fd_Code___eq__ (M : Md w K mg) : ∃ fd, FunD K "__eq__" "Code.__eq__" (defArgs (inClass (top 42) 5)) (defBody (inClass (top 42) 5)) (defScope (inClass (top 42) 5)) [] [] (He.fAd K d_Code___eq__.at_) fd := M.c.d.def_ 24 (d := d_Code___eq__) rfl
theorem Md.fd_landing (M : Md w K mg) : ∃ fd, FunD K "landing" "landing" (defArgs (top 51)) (defBody (top 51)) (defScope (top 51)) [] [] (He.fAd K d_landing.at_) fd := M.c.d.def_ 25 (d := d_landing) rfl
theorem Md.fd_straight (M : Md w K mg) : ∃ fd, FunD K "straight" "straight" (defArgs (top 52)) (defBody (top 52)) (defScope (top 52)) [] [] (He.fAd K d_straight.at_) fd := M.c.d.def_ 26 (d := d_straight) rfl
theorem Md.fd_straightened (M : Md w K mg) : ∃ fd, FunD K "straightened" "straightened" (defArgs (top 53)) (defBody (top 53)) (defScope (top 53)) [] [] (He.fAd K d_straightened.at_) fd := M.c.d.def_ 27 (d := d_straightened) rfl
theorem Md.fd_reached_places (M : Md w K mg) : ∃ fd, FunD K "reached_places" "reached_places" (defArgs (top 54)) (defBody (top 54)) (defScope (top 54)) [] [] (He.fAd K d_reached_places.at_) fd := M.c.d.def_ 28 (d := d_reached_places) rfl
theorem Md.fd_named_places (M : Md w K mg) : ∃ fd, FunD K "named_places" "named_places" (defArgs (top 55)) (defBody (top 55)) (defScope (top 55)) [] [] (He.fAd K d_named_places.at_) fd := M.c.d.def_ 29 (d := d_named_places) rfl
theorem Md.fd_is_quiet (M : Md w K mg) : ∃ fd, FunD K "is_quiet" "is_quiet" (defArgs (top 56)) (defBody (top 56)) (defScope (top 56)) [] [] (He.fAd K d_is_quiet.at_) fd := M.c.d.def_ 30 (d := d_is_quiet) rfl
theorem Md.fd_fence_places (M : Md w K mg) : ∃ fd, FunD K "fence_places" "fence_places" (defArgs (top 57)) (defBody (top 57)) (defScope (top 57)) [] [] (He.fAd K d_fence_places.at_) fd := M.c.d.def_ 31 (d := d_fence_places) rfl
theorem Md.fd_is_free (M : Md w K mg) : ∃ fd, FunD K "is_free" "is_free" (defArgs (top 58)) (defBody (top 58)) (defScope (top 58)) [] [] (He.fAd K d_is_free.at_) fd := M.c.d.def_ 32 (d := d_is_free) rfl
theorem Md.fd_idle_places (M : Md w K mg) : ∃ fd, FunD K "idle_places" "idle_places" (defArgs (top 59)) (defBody (top 59)) (defScope (top 59)) [] [] (He.fAd K d_idle_places.at_) fd := M.c.d.def_ 33 (d := d_idle_places) rfl
theorem Md.fd_kept_places (M : Md w K mg) : ∃ fd, FunD K "kept_places" "kept_places" (defArgs (top 60)) (defBody (top 60)) (defScope (top 60)) [] [] (He.fAd K d_kept_places.at_) fd := M.c.d.def_ 34 (d := d_kept_places) rfl
theorem Md.fd_closed_up (M : Md w K mg) : ∃ fd, FunD K "closed_up" "closed_up" (defArgs (top 61)) (defBody (top 61)) (defScope (top 61)) [] [] (He.fAd K d_closed_up.at_) fd := M.c.d.def_ 35 (d := d_closed_up) rfl
theorem Md.fd_shorter (M : Md w K mg) : ∃ fd, FunD K "shorter" "shorter" (defArgs (top 62)) (defBody (top 62)) (defScope (top 62)) [] [] (He.fAd K d_shorter.at_) fd := M.c.d.def_ 36 (d := d_shorter) rfl
theorem Md.fd_shortened (M : Md w K mg) : ∃ fd, FunD K "shortened" "shortened" (defArgs (top 64)) (defBody (top 64)) (defScope (top 64)) [] [] (He.fAd K d_shortened.at_) fd := M.c.d.def_ 37 (d := d_shortened) rfl
theorem Md.fd_Program___init__ (M : Md w K mg) : ∃ fd, FunD K "__init__" "Program.__init__" (defArgs (inClass (top 67) 0)) (defBody (inClass (top 67) 0)) (defScope (inClass (top 67) 0)) [] [] (He.fAd K d_Program___init__.at_) fd := M.c.d.def_ 38 (d := d_Program___init__) rfl
theorem Md.fd_Program_names (M : Md w K mg) : ∃ fd, FunD K "names" "Program.names" (defArgs (inClass (top 67) 1)) (defBody (inClass (top 67) 1)) (defScope (inClass (top 67) 1)) [] [] (He.fAd K d_Program_names.at_) fd := M.c.d.def_ 39 (d := d_Program_names) rfl
theorem Md.fd_Program_procedure (M : Md w K mg) : ∃ fd, FunD K "procedure" "Program.procedure" (defArgs (inClass (top 67) 2)) (defBody (inClass (top 67) 2)) (defScope (inClass (top 67) 2)) [] [] (He.fAd K d_Program_procedure.at_) fd := M.c.d.def_ 40 (d := d_Program_procedure) rfl
theorem Md.fd_Program___eq__ (M : Md w K mg) : ∃ fd, FunD K "__eq__" "Program.__eq__" (defArgs (inClass (top 67) 3)) (defBody (inClass (top 67) 3)) (defScope (inClass (top 67) 3)) [] [] (He.fAd K d_Program___eq__.at_) fd := M.c.d.def_ 41 (d := d_Program___eq__) rfl
theorem Md.fd__law_source (M : Md w K mg) : ∃ fd, FunD K "_law_source" "_law_source" (defArgs (top 69)) (defBody (top 69)) (defScope (top 69)) [] [] (He.fAd K d__law_source.at_) fd := M.c.d.def_ 42 (d := d__law_source) rfl
theorem Md.fd__law_mixed (M : Md w K mg) : ∃ fd, FunD K "_law_mixed" "_law_mixed" (defArgs (top 70)) (defBody (top 70)) (defScope (top 70)) [] [] (He.fAd K d__law_mixed.at_) fd := M.c.d.def_ 43 (d := d__law_mixed) rfl
theorem Md.fd__law_draw (M : Md w K mg) : ∃ fd, FunD K "_law_draw" "_law_draw" (defArgs (top 71)) (defBody (top 71)) (defScope (top 71)) [] [] (He.fAd K d__law_draw.at_) fd := M.c.d.def_ 44 (d := d__law_draw) rfl
theorem Md.fd__law_many (M : Md w K mg) : ∃ fd, FunD K "_law_many" "_law_many" (defArgs (top 72)) (defBody (top 72)) (defScope (top 72)) [] [] (He.fAd K d__law_many.at_) fd := M.c.d.def_ 45 (d := d__law_many) rfl
theorem Md.fd__law_one (M : Md w K mg) : ∃ fd, FunD K "_law_one" "_law_one" (defArgs (top 73)) (defBody (top 73)) (defScope (top 73)) [] [] (He.fAd K d__law_one.at_) fd := M.c.d.def_ 46 (d := d__law_one) rfl
theorem Md.fd__law_constant (M : Md w K mg) : ∃ fd, FunD K "_law_constant" "_law_constant" (defArgs (top 74)) (defBody (top 74)) (defScope (top 74)) [] [] (He.fAd K d__law_constant.at_) fd := M.c.d.def_ 47 (d := d__law_constant) rfl
theorem Md.fd__law_deed (M : Md w K mg) : ∃ fd, FunD K "_law_deed" "_law_deed" (defArgs (top 75)) (defBody (top 75)) (defScope (top 75)) [] [] (He.fAd K d__law_deed.at_) fd := M.c.d.def_ 48 (d := d__law_deed) rfl
theorem Md.fd__law_chunk (M : Md w K mg) : ∃ fd, FunD K "_law_chunk" "_law_chunk" (defArgs (top 76)) (defBody (top 76)) (defScope (top 76)) [] [] (He.fAd K d__law_chunk.at_) fd := M.c.d.def_ 49 (d := d__law_chunk) rfl
theorem Md.fd__law_code (M : Md w K mg) : ∃ fd, FunD K "_law_code" "_law_code" (defArgs (top 77)) (defBody (top 77)) (defScope (top 77)) [] [] (He.fAd K d__law_code.at_) fd := M.c.d.def_ 50 (d := d__law_code) rfl
theorem Md.fd__law_line (M : Md w K mg) : ∃ fd, FunD K "_law_line" "_law_line" (defArgs (top 78)) (defBody (top 78)) (defScope (top 78)) [] [] (He.fAd K d__law_line.at_) fd := M.c.d.def_ 51 (d := d__law_line) rfl
theorem Md.fd__law_next (M : Md w K mg) : ∃ fd, FunD K "_law_next" "_law_next" (defArgs (top 79)) (defBody (top 79)) (defScope (top 79)) [] [] (He.fAd K d__law_next.at_) fd := M.c.d.def_ 52 (d := d__law_next) rfl
theorem Md.fd__law_all_reached (M : Md w K mg) : ∃ fd, FunD K "_law_all_reached" "_law_all_reached" (defArgs (top 80)) (defBody (top 80)) (defScope (top 80)) [] [] (He.fAd K d__law_all_reached.at_) fd := M.c.d.def_ 53 (d := d__law_all_reached) rfl
theorem Md.fd__law_is_ring (M : Md w K mg) : ∃ fd, FunD K "_law_is_ring" "_law_is_ring" (defArgs (top 81)) (defBody (top 81)) (defScope (top 81)) [] [] (He.fAd K d__law_is_ring.at_) fd := M.c.d.def_ 54 (d := d__law_is_ring) rfl
theorem Md.fd__law_tidy (M : Md w K mg) : ∃ fd, FunD K "_law_tidy" "_law_tidy" (defArgs (top 82)) (defBody (top 82)) (defScope (top 82)) [] [] (He.fAd K d__law_tidy.at_) fd := M.c.d.def_ 55 (d := d__law_tidy) rfl
theorem Md.fd_law (M : Md w K mg) : ∃ fd, FunD K "law" "law" (defArgs (top 83)) (defBody (top 83)) (defScope (top 83)) [] [] (He.fAd K d_law.at_) fd := M.c.d.def_ 56 (d := d_law) rfl
end
end T51

set_option Elab.async false
set_option linter.all false
set_option maxRecDepth 100000
set_option maxHeartbeats 4000000
namespace T51
open PySem PySem.Spec PyProof.Rows L2
structure Cal (P : Program) (w : World) (K : PySem.W.Frag) (mg : Str → Option Value) (base : Heap) (k : Nat) (x : Str) (ps : List Str) (sp : Sp) : Prop where
  ex : ∃ (f : Addr) (fd : FuncData), FnOk P w K mg base CX0 k f fd ps sp ∧ mg x = some (.ref f) ∧ PySem.W.keepIn K (.ref f) = true ∧ Binds K fd ps []
structure CalM (P : Program) (w : World) (K : PySem.W.Frag) (mg : Str → Option Value) (base : Heap) (k : Nat) (C : Addr) (m : Str) (ps : List Str) (sp : Sp) : Prop where
  ex : ∃ (f : Addr) (fd : FuncData), FnOk P w K mg base CX0 k f fd ps sp ∧ Meth K C m f ∧ Binds K fd ps []
  cl : Cls K C
structure CalI (P : Program) (w : World) (K : PySem.W.Frag) (mg : Str → Option Value) (base : Heap) (k : Nat) (x : Str) (C : Addr) (ps : List Str) (sp : Sp) : Prop where
  ex : ∃ (f : Addr) (fd : FuncData), FnOk P w K mg base CX0 k f fd ps sp ∧ Mk K C f ∧ Binds K fd ps []
  mg : mg x = some (.ref C)
section
variable {X : Cx} {k : Nat} {x m : Str} {C : Addr} {ps : List Str} {sp : Sp} {p pos apos : Pos} {e o : Expr} {es : List Expr} {t : TA} {ta : TE}
theorem pe_cl (M : Cal X.prog X.w X.K X.mg X.base k x ps sp) (hr : Room k X.A) (hg : Gl X x) (ha : PA X (e :: es) t) (hdb : (x == ("__debug__" : Str)) = false := by decide)
    (he : starEach (e :: es) X.env = (false, eval e X.env) :: starEach es X.env := by rfl) (hpl : (backTo pos (starEach es X.env)).any (·.1) = false := by rfl) : PE X (.Call (.Name x p) (e :: es) [] pos) (tCall sp [] E0 t) := by
  obtain ⟨f, fd, F, mm, kp, b⟩ := M.ex
  exact pe_call F hr hg mm kp b .nil pass0 ha hdb he hpl
theorem pe_cl0 (M : Cal X.prog X.w X.K X.mg X.base k x ps sp) (hr : Room k X.A) (hg : Gl X x) (hdb : (x == ("__debug__" : Str)) = false := by decide) : PE X (.Call (.Name x p) [] [] pos) (tCall sp [] E0 tNil) := by
  obtain ⟨f, fd, F, mm, kp, b⟩ := M.ex
  exact pe_call0 F hr hg mm kp b .nil pass0 hdb
theorem pe_me {pl : Sem Bool} (M : CalM X.prog X.w X.K X.mg X.base k C m ps sp) (he : PE X o ta) (hr : Room k X.A) (ha : PA X (e :: es) t)
    (hst : starEach (e :: es) X.env = (false, eval e X.env) :: starEach es X.env := by rfl) (hpl : (backTo pos (starEach es X.env)).any (·.1) = false := by rfl)
    (ht : eval (.Call (.Attribute o m apos) (e :: es) [] pos) X.env = (do
      let ov ← eval o X.env
      standAt apos.atName
      let (f, first) ← holding [ov] (getMethod ov m pl)
      callWith pos f first (backTo pos (starEach (e :: es) X.env)) (backToKw pos (keywordEach [] X.env))) := by rfl) :
    PE X (.Call (.Attribute o m apos) (e :: es) [] pos) (tMeth C m sp [] E0 ta t) := by
  obtain ⟨f, fd, F, mm, b⟩ := M.ex
  exact pe_meth he M.cl mm F hr b .nil pass0 ha hst hpl ht
theorem pe_me0 {pl : Sem Bool} (M : CalM X.prog X.w X.K X.mg X.base k C m ps sp) (he : PE X o ta) (hr : Room k X.A)
    (ht : eval (.Call (.Attribute o m apos) [] [] pos) X.env = (do
      let ov ← eval o X.env
      standAt apos.atName
      let (f, first) ← holding [ov] (getMethod ov m pl)
      callWith pos f first (backTo pos (starEach [] X.env)) (backToKw pos (keywordEach [] X.env))) := by rfl) :
    PE X (.Call (.Attribute o m apos) [] [] pos) (tMeth C m sp [] E0 ta tNil) := by
  obtain ⟨f, fd, F, mm, b⟩ := M.ex
  exact pe_meth0 he M.cl mm F hr b .nil pass0 ht
theorem pe_mkc (M : CalI X.prog X.w X.K X.mg X.base k x C ps sp) (hr : Room (k + 1) X.A) (hg : Gl X x) (ha : PA X (e :: es) t) (hdb : (x == ("__debug__" : Str)) = false := by decide)
    (he : starEach (e :: es) X.env = (false, eval e X.env) :: starEach es X.env := by rfl) (hpl : (backTo pos (starEach es X.env)).any (·.1) = false := by rfl) : PE X (.Call (.Name x p) (e :: es) [] pos) (tMake C sp [] E0 t) := by
  obtain ⟨f, fd, F, mm, b⟩ := M.ex
  exact pe_make mm F hr hg M.mg b .nil pass0 ha hdb he hpl
theorem pe_globI {i : Int} (hg : Gl X x) (h : ∃ t, X.mg x = some (.int i t)) (hd : (x == ("__debug__" : Str)) = false := by decide) : PE X (.Name x pos) (tC (.int i)) := by
  obtain ⟨t, e⟩ := h
  exact pe_glob hg e ⟨t, rfl⟩ hd
theorem pe_globR {a : Addr} (hg : Gl X x) (h : X.mg x = some (.ref a)) (hd : (x == ("__debug__" : Str)) = false := by decide) : PE X (.Name x pos) (tC (.ref a)) := pe_glob hg h rfl hd
theorem pe_ty {n : String} (hg : Gl X x) (h : X.mg x = none) (hv : bootBuiltins x = some (.type n)) (hn : x ≠ "__name__" := by decide) (hd : (x == ("__debug__" : Str)) = false := by decide) : PE X (.Name x pos) (tC (.ty n)) := pe_bltn (v := .ty n) hg h hv rfl hn hd
theorem pe_globS {z : Str} (hg : Gl X x) (h : ∃ t, X.mg x = some (.str z t)) (hd : (x == ("__debug__" : Str)) = false := by decide) : PE X (.Name x pos) (tC (.str z)) := by
  obtain ⟨t, e⟩ := h
  exact pe_glob hg e ⟨t, rfl⟩ hd
end
section
variable {P : Program} {w : World} {K : PySem.W.Frag} {mg : Str → Option Value} {base : Heap}
theorem fn_of_d {x qual : Str} {params : Arguments} {bd : List Stmt} {scope : Scope} {f : Addr} {fd : FuncData} {N ps : List Str} {k : Nat} {sp : Sp} (F : FunD K x qual params bd scope [] [] f fd) (S : FnScope N ps scope) (len : ∀ vs H Q E, sp vs H Q E → vs.length = ps.length)
    (body : ∀ (cdv : Value) (A : Around) (outer : List Env) (s : Shared) (H : Hp) (vs : List V) (Q : VK) (E : XK), Room k (A.deeper (envOfC qual scope s.heap.objs.size f cdv)) → sp vs H Q E →
      ∃ t, PSs (cxOf CX0 P w K mg base N qual scope f cdv A outer s H E).nox bd t ∧ t { nx := fun _ H' => Q .non H', rt := Q } (start N vs) H) : FnOk P w K mg base CX0 (k + 1) f fd ps sp := by
  refine F.ok S len fun cdv A outer s H vs Q E hr h => ?_
  obtain ⟨t, d, q⟩ := body cdv A outer s H vs Q E hr h
  exact ⟨t, PSs.nox d, q⟩
end
/-! ### the reading, step by step -/
section
variable {K : PySem.W.Frag} {σ : L2.St} {H : Hp} {D : Ends} {t u : TS} {te ta tb tc : TE} {g : TG} {c d : TT} {r r' : R2} {Q : VK} {v x y : V} {i j : Nat} {tl tl' : TA}
theorem a_seq (h : t { D with nx := u D } σ H) : tSeq t u D σ H := h
theorem a_asg (h : te σ H fun x H1 => g x σ H1 D.nx) : tAsg te g D σ H := h
theorem a_gname {k : L2.St → Hp → Prop} (h : k (σ.set i (some x)) H) : gName i x σ H k := h
theorem a_ret (h : te σ H D.rt) : tRet te D σ H := h
theorem a_retN (h : D.rt .non H) : tRetN D σ H := h
theorem a_drop (h : te σ H fun _ H1 => D.nx σ H1) : tDrop te D σ H := h
theorem a_next (h : D.nx σ H) : tNext D σ H := h
theorem a_break (h : D.bk σ H) : tBreak D σ H := h
theorem a_cont (h : D.ct σ H) : tCont D σ H := h
theorem a_if (h : c σ H fun b H1 => if b = true then t D σ H1 else u D σ H1) : tIfS c t u D σ H := h
theorem a_tB {R : Bool → Hp → Prop} (h : te σ H fun x H1 => ∃ k, x = .bl k ∧ R k H1) : tB te σ H R := h
theorem a_test {R : Bool → Hp → Prop} (h : te σ H fun x H1 => ∃ k, x = .bl k ∧ R k H1) : tTest te σ H R := h
theorem a_bl {b : Bool} {R : Bool → Hp → Prop} (h : R b H) : ∃ k, V.bl b = .bl k ∧ R k H := ⟨b, rfl, h⟩
theorem a_and {R : Bool → Hp → Prop} (h : c σ H fun b H1 => if b = true then d σ H1 R else R false H1) : tAnd c d σ H R := h
theorem a_or {R : Bool → Hp → Prop} (h : c σ H fun b H1 => if b = true then R true H1 else d σ H1 R) : tOr c d σ H R := h
theorem a_not {R : Bool → Hp → Prop} (h : c σ H fun b H1 => R (!b) H1) : tNot c σ H R := h
theorem a_andV (h : ta σ H fun x H1 => ∃ c, x = .bl c ∧ if c = true then tb σ H1 Q else Q (.bl false) H1) : tAndV ta tb σ H Q := h
theorem a_orV (h : ta σ H fun x H1 => ∃ c, x = .bl c ∧ if c = true then Q (.bl true) H1 else tb σ H1 Q) : tOrV ta tb σ H Q := h
theorem a_notV (h : ta σ H fun x H1 => ∃ c, x = .bl c ∧ Q (.bl (!c)) H1) : tNotV ta σ H Q := h
theorem a_ifE (h : c σ H fun b H1 => if b = true then ta σ H1 Q else tb σ H1 Q) : tIf c ta tb σ H Q := h
theorem a_op (h : ta σ H fun x H1 => tb σ H1 fun y H2 => r x y H2 Q) : tOp r ta tb σ H Q := h
theorem a_var (e : σ[i]? = some (some v)) (h : Q v H) : tVar i σ H Q := ⟨v, e, h⟩
theorem a_c (h : Q v H) : tC v σ H Q := h
theorem a_cons {R : List V → Hp → Prop} (h : ta σ H fun x H1 => tl σ H1 fun xs H2 => R (x :: xs) H2) : tCons ta tl σ H R := h
theorem a_nil {R : List V → Hp → Prop} (h : R [] H) : tNil σ H R := h
theorem a_cb {r : List V → Hp → VK → Prop} (h : tl σ H fun vs H1 => r vs H1 Q) : tCB r tl σ H Q := h
theorem a_call {sp : Sp} {E : XK} (h : tl σ H fun vs H1 => sp (vs ++ []) H1 Q E) : tCall sp [] E tl σ H Q := h
theorem a_tup (h : tl σ H fun xs H1 => xs.length ≤ sizeLine ∧ ∀ p, H1 p = none → Q (.ref p) (upd H1 p (.tup xs))) : tTup tl σ H Q := h
theorem a_lst (h : tl σ H fun xs H1 => xs.length ≤ sizeLine ∧ ∀ p, H1 p = none → Q (.ref p) (upd H1 p (.lst xs))) : tLst tl σ H Q := h
theorem a_chain (h : ta σ H fun x H1 => tb σ H1 fun y H2 => r x y H2 fun z H3 => ∃ k, z = .bl k ∧ (if k = true then tc σ H3 fun w' H4 => r' y w' H4 Q else Q (.bl false) H3)) : tChain r r' ta tb tc σ H Q := h
theorem a_iteT {A B : Prop} (h : A) : if true = true then A else B := iteT h
theorem a_iteF {A B : Prop} (h : B) : if false = true then A else B := iteF h
/-- a test whose answer is open -/
theorem a_ite {p A B : Prop} [Decidable p] (h1 : p → A) (h2 : ¬ p → B) : if decide p = true then A else B := by
  by_cases e : p
  · rw [decide_eq_true e]; exact iteT (h1 e)
  · rw [decide_eq_false e]; exact iteF (h2 e)
theorem a_iteN {p A B : Prop} [Decidable p] (h1 : ¬ p → A) (h2 : p → B) : if (!decide p) = true then A else B := by
  by_cases e : p
  · rw [decide_eq_true e]; exact iteF (h2 e)
  · rw [decide_eq_false e]; exact iteT (h1 e)
theorem a_iteB {b : Bool} {A B : Prop} (h1 : b = true → A) (h2 : b = false → B) : if b = true then A else B := by
  cases b
  · exact iteF (h2 rfl)
  · exact iteT (h1 rfl)
theorem a_iteBN {b : Bool} {A B : Prop} (h1 : b = false → A) (h2 : b = true → B) : if (!b) = true then A else B := by
  cases b
  · exact iteT (h1 rfl)
  · exact iteF (h2 rfl)
theorem a_rI0 {g : Int → Int → V} {i j : Int} (h : Q (g i j) H) : rI0 g (.int i) (.int j) H Q := ⟨i, j, rfl, rfl, h⟩
theorem a_rI {C : Int → Int → Prop} {g : Int → Int → V} {i j : Int} (e : C i j) (h : Q (g i j) H) : rI C g (.int i) (.int j) H Q := ⟨i, j, rfl, rfl, e, h⟩
theorem dec_str {a b : Str} : decide (V.str a = V.str b) = decide (a = b) := by
  by_cases e : a = b
  · rw [decide_eq_true e, decide_eq_true (congrArg V.str e)]
  · rw [decide_eq_false e, decide_eq_false (fun z => e (V.str.inj z))]
theorem dec_intV {a b : Int} : decide (V.int a = V.int b) = decide (a = b) := by
  by_cases e : a = b
  · rw [decide_eq_true e, decide_eq_true (congrArg V.int e)]
  · rw [decide_eq_false e, decide_eq_false (fun z => e (V.int.inj z))]
theorem a_eqS {a b : Str} (h : Q (.bl (decide (a = b))) H) : rEq (.str a) (.str b) H Q := ⟨rfl, by rw [dec_str]; exact h⟩
theorem a_eqI {a b : Int} (h : Q (.bl (decide (a = b))) H) : rEq (.int a) (.int b) H Q := ⟨rfl, by rw [dec_intV]; exact h⟩
theorem a_neS {a b : Str} (h : Q (.bl (!decide (a = b))) H) : rNe (.str a) (.str b) H Q := ⟨rfl, by rw [dec_str]; exact h⟩
theorem a_neI {a b : Int} (h : Q (.bl (!decide (a = b))) H) : rNe (.int a) (.int b) H Q := ⟨rfl, by rw [dec_intV]; exact h⟩
theorem a_inT {neg : Bool} {p : Addr} {xs : List V} (e : SqT K H p xs) (hx : flatV x = true) (hf : xs.all flatV = true) (h : Q (.bl (if neg then !inV x xs else inV x xs)) H) : rIn K neg x (.ref p) H Q := ⟨p, xs, rfl, .inr e, hx, hf, h⟩
theorem a_inL {neg : Bool} {p : Addr} {xs : List V} (e : SqL K H p xs) (hx : flatV x = true) (hf : xs.all flatV = true) (h : Q (.bl (if neg then !inV x xs else inV x xs)) H) : rIn K neg x (.ref p) H Q := ⟨p, xs, rfl, .inl e, hx, hf, h⟩
theorem a_ixL {p : Addr} {xs : List V} {i : Int} (e : SqL K H p xs) (a : atI xs i = some v) (h : Q v H) : rIxL K (.ref p) (.int i) H Q := ⟨p, xs, i, v, rfl, rfl, e, a, h⟩
theorem a_ixT {p : Addr} {xs : List V} {i : Int} (e : SqT K H p xs) (a : atI xs i = some v) (h : Q v H) : rIxT K (.ref p) (.int i) H Q := ⟨p, xs, i, v, rfl, rfl, e, a, h⟩
theorem a_isN {f : R2} (h : Q (.bl (decide (x = .non))) H) : (fun x y H Q => y = V.non ∧ Q (.bl (decide (x = .non))) H : R2) x .non H Q := ⟨rfl, h⟩
theorem a_lenL {p : Addr} {xs : List V} (e : SqL K H p xs) (h : Q (.int xs.length) H) : ∃ p' ys, ([V.ref p] : List V) = [.ref p'] ∧ (SqL K H p' ys ∨ SqT K H p' ys) ∧ Q (.int ys.length) H := ⟨p, xs, rfl, .inl e, h⟩
theorem a_lenT {p : Addr} {xs : List V} (e : SqT K H p xs) (h : Q (.int xs.length) H) : ∃ p' ys, ([V.ref p] : List V) = [.ref p'] ∧ (SqL K H p' ys ∨ SqT K H p' ys) ∧ Q (.int ys.length) H := ⟨p, xs, rfl, .inr e, h⟩
theorem a_lenS {z : Str} (e : z.length ≤ sizeLine) (h : Q (.int z.length) H) : ∃ z', ([V.str z] : List V) = [.str z'] ∧ z'.length ≤ sizeLine ∧ Q (.int z'.length) H := ⟨z, rfl, e, h⟩
theorem a_bm {T : String} {r : V → List V → Hp → VK → Prop} (h : te σ H fun x H1 => tyV K T x H1 ∧ tl σ H1 fun xs H2 => r x xs H2 Q) : tBM K T r te tl σ H Q := h
theorem a_bm0 {T : String} {r : V → List V → Hp → VK → Prop} (h : te σ H fun x H1 => tyV K T x H1 ∧ r x [] H1 Q) : tBM0 K T r te σ H Q := h
theorem a_aug {ti : TIp} (e : σ[i]? = some (some x)) (h : te σ H fun y H1 => ti x y H1 fun z H2 => D.nx (σ.set i (some z)) H2) : tAug i te ti D σ H := ⟨x, e, h⟩
theorem a_ipI {f : Int → Int → Int} {a b : Int} {Q : VK} (h : Q (.int (f a b)) H) : ipI f (.int a) (.int b) H Q := ⟨a, b, rfl, rfl, h⟩
theorem a_size {xs : List V} {A : Prop} (e : xs.length ≤ 1000) (h : A) : xs.length ≤ sizeLine ∧ A := ⟨Nat.le_of_lt (small1000 e), h⟩
end
/-! ### promises by the number of arguments -/
def s0 (f : Hp → VK → Prop) : Sp := fun vs H Q _ => vs = [] ∧ f H Q
def s1 (f : V → Hp → VK → Prop) : Sp := fun vs H Q _ => ∃ a, vs = [a] ∧ f a H Q
def s2 (f : V → V → Hp → VK → Prop) : Sp := fun vs H Q _ => ∃ a b, vs = [a, b] ∧ f a b H Q
def s3 (f : V → V → V → Hp → VK → Prop) : Sp := fun vs H Q _ => ∃ a b c, vs = [a, b, c] ∧ f a b c H Q
def s4 (f : V → V → V → V → Hp → VK → Prop) : Sp := fun vs H Q _ => ∃ a b c d, vs = [a, b, c, d] ∧ f a b c d H Q
section
variable {H : Hp} {Q : VK} {E : XK} {a b c d : V}
theorem s0_len {f : Hp → VK → Prop} : ∀ vs H Q E, s0 f vs H Q E → vs.length = 0 := fun vs H Q E h => by obtain ⟨rfl, _⟩ := h; rfl
theorem s1_len {f : V → Hp → VK → Prop} : ∀ vs H Q E, s1 f vs H Q E → vs.length = 1 := fun vs H Q E h => by obtain ⟨_, rfl, _⟩ := h; rfl
theorem s2_len {f : V → V → Hp → VK → Prop} : ∀ vs H Q E, s2 f vs H Q E → vs.length = 2 := fun vs H Q E h => by obtain ⟨_, _, rfl, _⟩ := h; rfl
theorem s3_len {f : V → V → V → Hp → VK → Prop} : ∀ vs H Q E, s3 f vs H Q E → vs.length = 3 := fun vs H Q E h => by obtain ⟨_, _, _, rfl, _⟩ := h; rfl
theorem s4_len {f : V → V → V → V → Hp → VK → Prop} : ∀ vs H Q E, s4 f vs H Q E → vs.length = 4 := fun vs H Q E h => by obtain ⟨_, _, _, _, rfl, _⟩ := h; rfl
theorem a_s0 {f : Hp → VK → Prop} (h : f H Q) : s0 f ([] ++ []) H Q E := ⟨rfl, h⟩
theorem a_s1 {f : V → Hp → VK → Prop} (h : f a H Q) : s1 f ([a] ++ []) H Q E := ⟨_, rfl, h⟩
theorem a_s2 {f : V → V → Hp → VK → Prop} (h : f a b H Q) : s2 f ([a, b] ++ []) H Q E := ⟨_, _, rfl, h⟩
theorem a_s3 {f : V → V → V → Hp → VK → Prop} (h : f a b c H Q) : s3 f ([a, b, c] ++ []) H Q E := ⟨_, _, _, rfl, h⟩
theorem a_s4 {f : V → V → V → V → Hp → VK → Prop} (h : f a b c d H Q) : s4 f ([a, b, c, d] ++ []) H Q E := ⟨_, _, _, _, rfl, h⟩
theorem a_m1 {f : V → Hp → VK → Prop} (h : f a H Q) : s1 f (a :: ([] ++ [])) H Q E := ⟨_, rfl, h⟩
theorem a_m2 {f : V → V → Hp → VK → Prop} (h : f a b H Q) : s2 f (a :: ([b] ++ [])) H Q E := ⟨_, _, rfl, h⟩
theorem a_m3 {f : V → V → V → Hp → VK → Prop} (h : f a b c H Q) : s3 f (a :: ([b, c] ++ [])) H Q E := ⟨_, _, _, rfl, h⟩
theorem a_m4 {f : V → V → V → V → Hp → VK → Prop} (h : f a b c d H Q) : s4 f (a :: ([b, c, d] ++ [])) H Q E := ⟨_, _, _, _, rfl, h⟩
end
/-! ### heaps -/
theorem Same.new {H : Hp} {p : Addr} {o : HO} (h : H p = none) : Same H (upd H p o) := fun a u e => by
  rw [upd_ne (ne_of_none e h)]
  exact e
theorem Same.more {H H' : Hp} {p : Addr} {o : HO} (e : Same H H') (h : H' p = none) : Same H (upd H' p o) := e.trans (Same.new h)
/-- an object that H does not know may change -/
theorem Same.mut {H H' : Hp} {p : Addr} {o : HO} (e : Same H H') (h : H p = none) : Same H (upd H' p o) := fun a u ha => by
  rw [upd_ne (ne_of_none ha h)]
  exact e a u ha
theorem Same.seqT {K : PySem.W.Frag} {H H' : Hp} {a : Addr} {xs : List V} (e : Same H H') (h : SqT K H a xs) : SqT K H' a xs := by
  rcases h with (h | ⟨o, h⟩) | h
  · exact .inl (.inl (e _ _ h))
  · exact .inl (.inr ⟨o, e _ _ h⟩)
  · exact .inr h
/-! ### texts -/
def sz {n : Nat} (h : n ≤ 100000) : n ≤ sizeLine := Nat.le_trans h (by decide)
theorem atI_lt {α : Type} {xs : List α} {i : Nat} (h : i < xs.length) : atI xs (i : Int) = some xs[i] := atI_nat (List.getElem?_eq_getElem h)
/-! ### isinstance of what is flat, of lists and tuples of the heap -/
section
variable {K : PySem.W.Frag} {H : Hp} {Q : VK} {a : Addr}
theorem a_isi {x : V} {m n : String} {b : Bool} (ty : TyX K H x (.type m)) (e : kitB m n = some b) (h : Q (.bl b) H) : rIsi K [x, .ty n] H Q := ⟨x, _, _, _, b, rfl, .ty n, ty, kit_ty e, h⟩
theorem a_isi_int_int {i : Int} (h : Q (.bl true) H) : rIsi K [.int i, .ty "int"] H Q := a_isi (m := "int") (.base (.int i)) (by decide +kernel) h
theorem a_isi_int_bool {i : Int} (h : Q (.bl false) H) : rIsi K [.int i, .ty "bool"] H Q := a_isi (m := "int") (.base (.int i)) (by decide +kernel) h
theorem a_isi_int_str {i : Int} (h : Q (.bl false) H) : rIsi K [.int i, .ty "str"] H Q := a_isi (m := "int") (.base (.int i)) (by decide +kernel) h
theorem a_isi_int_list {i : Int} (h : Q (.bl false) H) : rIsi K [.int i, .ty "list"] H Q := a_isi (m := "int") (.base (.int i)) (by decide +kernel) h
theorem a_isi_int_tuple {i : Int} (h : Q (.bl false) H) : rIsi K [.int i, .ty "tuple"] H Q := a_isi (m := "int") (.base (.int i)) (by decide +kernel) h
theorem a_isi_int_dict {i : Int} (h : Q (.bl false) H) : rIsi K [.int i, .ty "dict"] H Q := a_isi (m := "int") (.base (.int i)) (by decide +kernel) h
theorem a_isi_bl_int {b : Bool} (h : Q (.bl true) H) : rIsi K [.bl b, .ty "int"] H Q := a_isi (m := "bool") (.base (.bl b)) (by decide +kernel) h
theorem a_isi_bl_bool {b : Bool} (h : Q (.bl true) H) : rIsi K [.bl b, .ty "bool"] H Q := a_isi (m := "bool") (.base (.bl b)) (by decide +kernel) h
theorem a_isi_bl_str {b : Bool} (h : Q (.bl false) H) : rIsi K [.bl b, .ty "str"] H Q := a_isi (m := "bool") (.base (.bl b)) (by decide +kernel) h
theorem a_isi_bl_list {b : Bool} (h : Q (.bl false) H) : rIsi K [.bl b, .ty "list"] H Q := a_isi (m := "bool") (.base (.bl b)) (by decide +kernel) h
theorem a_isi_bl_tuple {b : Bool} (h : Q (.bl false) H) : rIsi K [.bl b, .ty "tuple"] H Q := a_isi (m := "bool") (.base (.bl b)) (by decide +kernel) h
theorem a_isi_bl_dict {b : Bool} (h : Q (.bl false) H) : rIsi K [.bl b, .ty "dict"] H Q := a_isi (m := "bool") (.base (.bl b)) (by decide +kernel) h
theorem a_isi_str_int {z : Str} (h : Q (.bl false) H) : rIsi K [.str z, .ty "int"] H Q := a_isi (m := "str") (.base (.str z)) (by decide +kernel) h
theorem a_isi_str_bool {z : Str} (h : Q (.bl false) H) : rIsi K [.str z, .ty "bool"] H Q := a_isi (m := "str") (.base (.str z)) (by decide +kernel) h
theorem a_isi_str_str {z : Str} (h : Q (.bl true) H) : rIsi K [.str z, .ty "str"] H Q := a_isi (m := "str") (.base (.str z)) (by decide +kernel) h
theorem a_isi_str_list {z : Str} (h : Q (.bl false) H) : rIsi K [.str z, .ty "list"] H Q := a_isi (m := "str") (.base (.str z)) (by decide +kernel) h
theorem a_isi_str_tuple {z : Str} (h : Q (.bl false) H) : rIsi K [.str z, .ty "tuple"] H Q := a_isi (m := "str") (.base (.str z)) (by decide +kernel) h
theorem a_isi_str_dict {z : Str} (h : Q (.bl false) H) : rIsi K [.str z, .ty "dict"] H Q := a_isi (m := "str") (.base (.str z)) (by decide +kernel) h
theorem a_isi_non_int  (h : Q (.bl false) H) : rIsi K [.non, .ty "int"] H Q := a_isi (m := "NoneType") (.base .non) (by decide +kernel) h
theorem a_isi_non_bool  (h : Q (.bl false) H) : rIsi K [.non, .ty "bool"] H Q := a_isi (m := "NoneType") (.base .non) (by decide +kernel) h
theorem a_isi_non_str  (h : Q (.bl false) H) : rIsi K [.non, .ty "str"] H Q := a_isi (m := "NoneType") (.base .non) (by decide +kernel) h
theorem a_isi_non_list  (h : Q (.bl false) H) : rIsi K [.non, .ty "list"] H Q := a_isi (m := "NoneType") (.base .non) (by decide +kernel) h
theorem a_isi_non_tuple  (h : Q (.bl false) H) : rIsi K [.non, .ty "tuple"] H Q := a_isi (m := "NoneType") (.base .non) (by decide +kernel) h
theorem a_isi_non_dict  (h : Q (.bl false) H) : rIsi K [.non, .ty "dict"] H Q := a_isi (m := "NoneType") (.base .non) (by decide +kernel) h
theorem a_isi_lst_int {xs : List V} (e : H a = some (.lst xs)) (h : Q (.bl false) H) : rIsi K [.ref a, .ty "int"] H Q := a_isi (m := "list") (.base (.lst e)) (by decide +kernel) h
theorem a_isi_lst_bool {xs : List V} (e : H a = some (.lst xs)) (h : Q (.bl false) H) : rIsi K [.ref a, .ty "bool"] H Q := a_isi (m := "list") (.base (.lst e)) (by decide +kernel) h
theorem a_isi_lst_str {xs : List V} (e : H a = some (.lst xs)) (h : Q (.bl false) H) : rIsi K [.ref a, .ty "str"] H Q := a_isi (m := "list") (.base (.lst e)) (by decide +kernel) h
theorem a_isi_lst_list {xs : List V} (e : H a = some (.lst xs)) (h : Q (.bl true) H) : rIsi K [.ref a, .ty "list"] H Q := a_isi (m := "list") (.base (.lst e)) (by decide +kernel) h
theorem a_isi_lst_tuple {xs : List V} (e : H a = some (.lst xs)) (h : Q (.bl false) H) : rIsi K [.ref a, .ty "tuple"] H Q := a_isi (m := "list") (.base (.lst e)) (by decide +kernel) h
theorem a_isi_lst_dict {xs : List V} (e : H a = some (.lst xs)) (h : Q (.bl false) H) : rIsi K [.ref a, .ty "dict"] H Q := a_isi (m := "list") (.base (.lst e)) (by decide +kernel) h
theorem a_isi_tup_int {xs : List V} (e : H a = some (.tup xs)) (h : Q (.bl false) H) : rIsi K [.ref a, .ty "int"] H Q := a_isi (m := "tuple") (.base (.tup e)) (by decide +kernel) h
theorem a_isi_tup_bool {xs : List V} (e : H a = some (.tup xs)) (h : Q (.bl false) H) : rIsi K [.ref a, .ty "bool"] H Q := a_isi (m := "tuple") (.base (.tup e)) (by decide +kernel) h
theorem a_isi_tup_str {xs : List V} (e : H a = some (.tup xs)) (h : Q (.bl false) H) : rIsi K [.ref a, .ty "str"] H Q := a_isi (m := "tuple") (.base (.tup e)) (by decide +kernel) h
theorem a_isi_tup_list {xs : List V} (e : H a = some (.tup xs)) (h : Q (.bl false) H) : rIsi K [.ref a, .ty "list"] H Q := a_isi (m := "tuple") (.base (.tup e)) (by decide +kernel) h
theorem a_isi_tup_tuple {xs : List V} (e : H a = some (.tup xs)) (h : Q (.bl true) H) : rIsi K [.ref a, .ty "tuple"] H Q := a_isi (m := "tuple") (.base (.tup e)) (by decide +kernel) h
theorem a_isi_tup_dict {xs : List V} (e : H a = some (.tup xs)) (h : Q (.bl false) H) : rIsi K [.ref a, .ty "dict"] H Q := a_isi (m := "tuple") (.base (.tup e)) (by decide +kernel) h
theorem a_isi_dK_int {kvs : List (Key × V)} (e : H a = some (.dK kvs)) (h : Q (.bl false) H) : rIsi K [.ref a, .ty "int"] H Q := a_isi (m := "dict") (.base (.dK e)) (by decide +kernel) h
theorem a_isi_dK_bool {kvs : List (Key × V)} (e : H a = some (.dK kvs)) (h : Q (.bl false) H) : rIsi K [.ref a, .ty "bool"] H Q := a_isi (m := "dict") (.base (.dK e)) (by decide +kernel) h
theorem a_isi_dK_str {kvs : List (Key × V)} (e : H a = some (.dK kvs)) (h : Q (.bl false) H) : rIsi K [.ref a, .ty "str"] H Q := a_isi (m := "dict") (.base (.dK e)) (by decide +kernel) h
theorem a_isi_dK_list {kvs : List (Key × V)} (e : H a = some (.dK kvs)) (h : Q (.bl false) H) : rIsi K [.ref a, .ty "list"] H Q := a_isi (m := "dict") (.base (.dK e)) (by decide +kernel) h
theorem a_isi_dK_tuple {kvs : List (Key × V)} (e : H a = some (.dK kvs)) (h : Q (.bl false) H) : rIsi K [.ref a, .ty "tuple"] H Q := a_isi (m := "dict") (.base (.dK e)) (by decide +kernel) h
theorem a_isi_dK_dict {kvs : List (Key × V)} (e : H a = some (.dK kvs)) (h : Q (.bl true) H) : rIsi K [.ref a, .ty "dict"] H Q := a_isi (m := "dict") (.base (.dK e)) (by decide +kernel) h
theorem a_iteNT {A B : Prop} (h : B) : if (!true) = true then A else B := iteF h
theorem a_iteNF {A B : Prop} (h : A) : if (!false) = true then A else B := iteT h
theorem a_blP {b : Bool} {R : Bool → Prop} (h : R b) : ∃ k, V.bl b = .bl k ∧ R k := ⟨b, rfl, h⟩
end
/-! ### calls of built-ins, their readings by name -/
def rLenS : List V → Hp → VK → Prop := fun xs H Q => ∃ z, xs = [.str z] ∧ z.length ≤ sizeLine ∧ Q (.int z.length) H
def rLenQ (K : PySem.W.Frag) : List V → Hp → VK → Prop := fun xs H Q => ∃ p ys, xs = [.ref p] ∧ (SqL K H p ys ∨ SqT K H p ys) ∧ Q (.int ys.length) H
def rLenD : List V → Hp → VK → Prop := fun xs H Q => ∃ a kvs, xs = [V.ref a] ∧ H a = some (.dK kvs) ∧ Q (.int kvs.length) H
def rOrd : List V → Hp → VK → Prop := fun xs H Q => ∃ x, xs = [.str x] ∧ x.length = 1 ∧ Q (.int (x.cps.getD 0 0 : Nat)) H
def rInt1 : List V → Hp → VK → Prop := fun xs H Q => (∃ i, xs = [.int i] ∧ Q (.int i) H) ∨ ∃ k, xs = [.bl k] ∧ Q (.int (if k then 1 else 0)) H
def rListO (K : PySem.W.Frag) : List V → Hp → VK → Prop := fun xs H Q => ∃ p ys, xs = [.ref p] ∧ (SqL K H p ys ∨ SqT K H p ys) ∧ ∀ l, H l = none → Q (.ref l) (upd H l (.lst ys))
def rTupO (K : PySem.W.Frag) : List V → Hp → VK → Prop := fun xs H Q => ∃ p ys, xs = [.ref p] ∧ ((SqL K H p ys ∧ ∀ l, H l = none → Q (.ref l) (upd H l (.tup ys))) ∨ (SqT K H p ys ∧ Q (.ref p) H))
def rMax2 : List V → Hp → VK → Prop := fun xs H Q => ∃ i j, xs = [.int i, .int j] ∧ Q (.int (if j > i then j else i)) H
def rMin2 : List V → Hp → VK → Prop := fun xs H Q => ∃ i j, xs = [.int i, .int j] ∧ Q (.int (if j < i then j else i)) H
section
variable {X : Cx}
theorem call_lenS : CallR X (.builtin "len") rLenS := call_len_str
theorem call_lenQ : CallR X (.builtin "len") (rLenQ X.K) := call_len_seq
theorem call_lenDK : CallR X (.builtin "len") rLenD := call_lenD
theorem call_ordN : CallR X (.builtin "ord") rOrd := call_ord
theorem call_intN : CallR X (.type "int") rInt1 := call_int1
theorem call_listN : CallR X (.type "list") (rListO X.K) := call_list_of
theorem call_tupleN : CallR X (.type "tuple") (rTupO X.K) := call_tuple_of
theorem call_maxN (hc : X.calm = true) : CallR X (.builtin "max") rMax2 := call_max2 hc
theorem call_minN (hc : X.calm = true) : CallR X (.builtin "min") rMin2 := call_min2 hc
end
section
variable {K : PySem.W.Frag} {H : Hp} {Q : VK}
theorem b_lenS {z : Str} (e : z.length ≤ sizeLine) (h : Q (.int z.length) H) : rLenS [.str z] H Q := ⟨z, rfl, e, h⟩
theorem b_lenL {p : Addr} {xs : List V} (e : SqL K H p xs) (h : Q (.int xs.length) H) : rLenQ K [.ref p] H Q := ⟨p, xs, rfl, .inl e, h⟩
theorem b_lenT {p : Addr} {xs : List V} (e : SqT K H p xs) (h : Q (.int xs.length) H) : rLenQ K [.ref p] H Q := ⟨p, xs, rfl, .inr e, h⟩
theorem b_lenD {p : Addr} {kvs : List (Key × V)} (e : H p = some (.dK kvs)) (h : Q (.int kvs.length) H) : rLenD [.ref p] H Q := ⟨p, kvs, rfl, e, h⟩
theorem b_ord {c : Nat} (h : Q (.int (c : Nat)) H) : rOrd [.str ⟨#[c]⟩] H Q := ⟨_, rfl, rfl, h⟩
theorem b_int {i : Int} (h : Q (.int i) H) : rInt1 [.int i] H Q := .inl ⟨i, rfl, h⟩
theorem b_listL {p : Addr} {xs : List V} (e : SqL K H p xs) (h : ∀ l, H l = none → Q (.ref l) (upd H l (.lst xs))) : rListO K [.ref p] H Q := ⟨p, xs, rfl, .inl e, h⟩
theorem b_listT {p : Addr} {xs : List V} (e : SqT K H p xs) (h : ∀ l, H l = none → Q (.ref l) (upd H l (.lst xs))) : rListO K [.ref p] H Q := ⟨p, xs, rfl, .inr e, h⟩
theorem b_tupL {p : Addr} {xs : List V} (e : SqL K H p xs) (h : ∀ l, H l = none → Q (.ref l) (upd H l (.tup xs))) : rTupO K [.ref p] H Q := ⟨p, xs, rfl, .inl ⟨e, h⟩⟩
theorem b_tupT {p : Addr} {xs : List V} (e : SqT K H p xs) (h : Q (.ref p) H) : rTupO K [.ref p] H Q := ⟨p, xs, rfl, .inr ⟨e, h⟩⟩
theorem b_append {l : Addr} {xs : List V} {y : V} (e : H l = some (.lst xs)) (z : xs.length < sizeLine) (h : Q .non (upd H l (.lst (xs ++ [y])))) : tyV K "list" (.ref l) H ∧ rAppend (.ref l) [y] H Q := ⟨.inl ⟨rfl, _, SqL.of e⟩, l, xs, y, rfl, rfl, e, z, h⟩
end
theorem b_inT {K : PySem.W.Frag} {H : Hp} {Q : VK} {x : V} {p : Addr} {xs : List V} {b : Bool} (e : SqT K H p xs) (hx : flatV x = true) (hf : xs.all flatV = true) (hv : inV x xs = b) (h : Q (.bl b) H) : rIn K false x (.ref p) H Q := ⟨p, xs, rfl, .inr e, hx, hf, by rw [hv]; exact h⟩
theorem b_inL {K : PySem.W.Frag} {H : Hp} {Q : VK} {x : V} {p : Addr} {xs : List V} {b : Bool} (e : SqL K H p xs) (hx : flatV x = true) (hf : xs.all flatV = true) (hv : inV x xs = b) (h : Q (.bl b) H) : rIn K false x (.ref p) H Q := ⟨p, xs, rfl, .inl e, hx, hf, by rw [hv]; exact h⟩
theorem b_niT {K : PySem.W.Frag} {H : Hp} {Q : VK} {x : V} {p : Addr} {xs : List V} {b : Bool} (e : SqT K H p xs) (hx : flatV x = true) (hf : xs.all flatV = true) (hv : inV x xs = b) (h : Q (.bl (!b)) H) : rIn K true x (.ref p) H Q := ⟨p, xs, rfl, .inr e, hx, hf, by rw [hv]; exact h⟩
theorem b_niL {K : PySem.W.Frag} {H : Hp} {Q : VK} {x : V} {p : Addr} {xs : List V} {b : Bool} (e : SqL K H p xs) (hx : flatV x = true) (hf : xs.all flatV = true) (hv : inV x xs = b) (h : Q (.bl (!b)) H) : rIn K true x (.ref p) H Q := ⟨p, xs, rfl, .inl e, hx, hf, by rw [hv]; exact h⟩
theorem a_yes {σ : L2.St} {H : Hp} {R : Bool → Hp → Prop} (h : R true H) : tYes σ H R := h
def rNon : R2 := fun x y H Q => y = .non ∧ Q (.bl (decide (x = .non))) H
def rNotNon : R2 := fun x y H Q => y = .non ∧ Q (.bl (!decide (x = .non))) H
theorem op_isNn {X : Cx} : OpR X (compareOp .Is) rNon := op_isN
theorem op_notNn {X : Cx} : OpR X (compareOp .IsNot) rNotNon := op_notN
theorem b_isN {x : V} {H : Hp} {Q : VK} (h : Q (.bl (decide (x = .non))) H) : rNon x .non H Q := ⟨rfl, h⟩
theorem b_notN {x : V} {H : Hp} {Q : VK} (h : Q (.bl (!decide (x = .non))) H) : rNotNon x .non H Q := ⟨rfl, h⟩
theorem a_un {r : V → Hp → VK → Prop} {ta : TE} {σ : L2.St} {H : Hp} {Q : VK} (h : ta σ H fun x H1 => r x H1 Q) : tUn r ta σ H Q := h
theorem b_rU {g : Int → V} {i : Int} {H : Hp} {Q : VK} (h : Q (g i) H) : rU g (.int i) H Q := ⟨i, rfl, h⟩
def rInKd (K : PySem.W.Frag) (d : Addr) (neg : Bool) : R2 := fun x y H Q => ∃ (z : Str) (r : Option Value), x = .str z ∧ y = .ref d ∧ PySem.W.nsIn K d z = some r ∧ Q (.bl (if neg then !r.isSome else r.isSome)) H
theorem op_inKdN {X : Cx} {d : Addr} {es : Array DictEntry} {n : Nat} (D : KDict X.K X.w d es n) : OpR X (compareOp .In) (rInKd X.K d false) := op_in_kd D
theorem op_notInKdN {X : Cx} {d : Addr} {es : Array DictEntry} {n : Nat} (D : KDict X.K X.w d es n) : OpR X (compareOp .NotIn) (rInKd X.K d true) := op_notIn_kd D
theorem b_inKd {K : PySem.W.Frag} {d : Addr} {neg : Bool} {z : Str} {u : Value} {H : Hp} {Q : VK} (e : PySem.W.nsIn K d z = some (some u)) (h : Q (.bl (!neg)) H) : rInKd K d neg (.str z) (.ref d) H Q := ⟨z, _, rfl, rfl, e, by cases neg <;> exact h⟩
def rFld (K : PySem.W.Frag) (f : Str) : V → Hp → VK → Prop := fun x H Q => ∃ a C dx fs v, x = .ref a ∧ H a = some (.ins C dx fs) ∧ Cls K C ∧ NoAttr K C f ∧ fs.lookup f = some v ∧ Q v H
theorem a_fld {K : PySem.W.Frag} {ta : TE} {f : Str} {σ : L2.St} {H : Hp} {Q : VK} (h : ta σ H fun x H1 => rFld K f x H1 Q) : tFld K ta f σ H Q := h
theorem b_fld {K : PySem.W.Frag} {f : Str} {a C dx : Addr} {fs : List (Str × V)} {v : V} {H : Hp} {Q : VK} (e : H a = some (.ins C dx fs)) (c : Cls K C) (n : NoAttr K C f) (l : fs.lookup f = some v) (h : Q v H) : rFld K f (.ref a) H Q := ⟨a, C, dx, fs, v, rfl, e, c, n, l, h⟩
def rSFld (K : PySem.W.Frag) (f : Str) (y : V) : V → Hp → (Hp → Prop) → Prop := fun x H R => ∃ a C dx fs, x = .ref a ∧ H a = some (.ins C dx fs) ∧ Cls K C ∧ NoAttr K C f ∧ fs.length < 1000 ∧ R (upd H a (.ins C dx (putF f y fs)))
theorem a_sfld {K : PySem.W.Frag} {ta tv : TE} {f : Str} {D : Ends} {σ : L2.St} {H : Hp} (h : tv σ H fun y H1 => ta σ H1 fun x H2 => rSFld K f y x H2 (fun H3 => D.nx σ H3)) : sFld K ta tv f D σ H := h
theorem b_sfld {K : PySem.W.Frag} {f : Str} {a C dx : Addr} {fs : List (Str × V)} {y : V} {H : Hp} {R : Hp → Prop} (e : H a = some (.ins C dx fs)) (c : Cls K C) (n : NoAttr K C f) (l : fs.length < 1000) (h : R (upd H a (.ins C dx (putF f y fs)))) : rSFld K f y (.ref a) H R := ⟨a, C, dx, fs, rfl, e, c, n, l, h⟩
def rMeth (C : Addr) (m : Str) (sp : Sp) (E : XK) (t : TA) (σ : L2.St) (Q : VK) : V → Hp → Prop := fun x H => ∃ a dx fs, x = .ref a ∧ H a = some (.ins C dx fs) ∧ fs.lookup m = none ∧ t σ H fun vs H2 => sp (x :: (vs ++ [])) H2 Q E
theorem a_meth {C : Addr} {m : Str} {sp : Sp} {E : XK} {ta : TE} {t : TA} {σ : L2.St} {H : Hp} {Q : VK} (h : ta σ H fun x H1 => rMeth C m sp E t σ Q x H1) : tMeth C m sp [] E ta t σ H Q := h
theorem b_meth {C a dx : Addr} {m : Str} {sp : Sp} {E : XK} {t : TA} {fs : List (Str × V)} {σ : L2.St} {H : Hp} {Q : VK} (e : H a = some (.ins C dx fs)) (n : fs.lookup m = none) (h : t σ H fun vs H2 => sp (.ref a :: (vs ++ [])) H2 Q E) : rMeth C m sp E t σ Q (.ref a) H := ⟨a, dx, fs, rfl, e, n, h⟩
theorem a_make {C : Addr} {sp : Sp} {E : XK} {t : TA} {σ : L2.St} {H : Hp} {Q : VK} (h : t σ H fun vs H1 => ∀ x dx, H1 x = none → H1 dx = none → dx ≠ x → sp (.ref x :: (vs ++ [])) (upd (upd H1 dx (.own x)) x (.ins C dx [])) (fun v H2 => v = .non ∧ Q (.ref x) H2) E) : tMake C sp [] E t σ H Q := h
def rDGet : V → V → Hp → VK → Prop := fun x y H Q => ∃ a v, x = .ref a ∧ DGet H a y (some v) ∧ Q v H
theorem a_dget {td ty : TE} {σ : L2.St} {H : Hp} {Q : VK} (h : td σ H fun x H1 => ty σ H1 fun y H2 => rDGet x y H2 Q) : tDGet td ty σ H Q := h
def rDIn (neg : Bool) : V → V → Hp → VK → Prop := fun y x H Q => ∃ a o, x = .ref a ∧ DGet H a y o ∧ Q (.bl (if neg then !o.isSome else o.isSome)) H
theorem a_din {td ty : TE} {σ : L2.St} {H : Hp} {Q : VK} (h : ty σ H fun y H1 => td σ H1 fun x H2 => rDIn false y x H2 Q) : tDIn ty td σ H Q := h
theorem a_dnin {td ty : TE} {σ : L2.St} {H : Hp} {Q : VK} (h : ty σ H fun y H1 => td σ H1 fun x H2 => rDIn true y x H2 Q) : tDNotIn ty td σ H Q := h
def rDPut (v : V) : V → V → Hp → (Hp → Prop) → Prop := fun x y H R => ∃ a H4, x = .ref a ∧ DPut H a y v H4 ∧ R H4
theorem a_dput {td ty tv : TE} {D : Ends} {σ : L2.St} {H : Hp} (h : tv σ H fun v H1 => td σ H1 fun x H2 => ty σ H2 fun y H3 => rDPut v x y H3 (fun H4 => D.nx σ H4)) : sDPut td ty tv D σ H := h
/-- d[k] of a dict of the heap, k an int or a text -/
theorem b_dgetS {a : Addr} {kvs : List (Key × V)} {z : Str} {v : V} {H : Hp} {Q : VK} (e : H a = some (.dK kvs)) (hv : valV kvs (Sum.inr z : Key) = some v) (h : Q v H) : rDGet (.ref a) (.str z) H Q := ⟨a, v, rfl, by have g := DGet.k (k := (Sum.inr z : Key)) e; rw [hv] at g; exact g, h⟩
theorem b_dgetI {a : Addr} {kvs : List (Key × V)} {i : Int} {v : V} {H : Hp} {Q : VK} (e : H a = some (.dK kvs)) (hv : valV kvs (Sum.inl i : Key) = some v) (h : Q v H) : rDGet (.ref a) (.int i) H Q := ⟨a, v, rfl, by have g := DGet.k (k := (Sum.inl i : Key)) e; rw [hv] at g; exact g, h⟩
theorem b_dinS {a : Addr} {kvs : List (Key × V)} {z : Str} {H : Hp} {Q : VK} (e : H a = some (.dK kvs)) (h : Q (.bl (valV kvs (Sum.inr z : Key)).isSome) H) : rDIn false (.str z) (.ref a) H Q := ⟨a, _, rfl, DGet.k (k := (Sum.inr z : Key)) e, h⟩
theorem b_dinI {a : Addr} {kvs : List (Key × V)} {i : Int} {H : Hp} {Q : VK} (e : H a = some (.dK kvs)) (h : Q (.bl (valV kvs (Sum.inl i : Key)).isSome) H) : rDIn false (.int i) (.ref a) H Q := ⟨a, _, rfl, DGet.k (k := (Sum.inl i : Key)) e, h⟩
theorem b_dninS {a : Addr} {kvs : List (Key × V)} {z : Str} {H : Hp} {Q : VK} (e : H a = some (.dK kvs)) (h : Q (.bl (!(valV kvs (Sum.inr z : Key)).isSome)) H) : rDIn true (.str z) (.ref a) H Q := ⟨a, _, rfl, DGet.k (k := (Sum.inr z : Key)) e, h⟩
theorem b_dninI {a : Addr} {kvs : List (Key × V)} {i : Int} {H : Hp} {Q : VK} (e : H a = some (.dK kvs)) (h : Q (.bl (!(valV kvs (Sum.inl i : Key)).isSome)) H) : rDIn true (.int i) (.ref a) H Q := ⟨a, _, rfl, DGet.k (k := (Sum.inl i : Key)) e, h⟩
theorem b_inS0 {a : Addr} {kvs : List (Key × V)} {z : Str} {H : Hp} {Q : VK} (e : H a = some (.dK kvs)) (hv : valV kvs (Sum.inr z : Key) = none) (h : Q (.bl false) H) : rDIn false (.str z) (.ref a) H Q := b_dinS e (by rw [hv]; exact h)
theorem b_inS1 {a : Addr} {kvs : List (Key × V)} {z : Str} {v : V} {H : Hp} {Q : VK} (e : H a = some (.dK kvs)) (hv : valV kvs (Sum.inr z : Key) = some v) (h : Q (.bl true) H) : rDIn false (.str z) (.ref a) H Q := b_dinS e (by rw [hv]; exact h)
theorem b_niS0 {a : Addr} {kvs : List (Key × V)} {z : Str} {H : Hp} {Q : VK} (e : H a = some (.dK kvs)) (hv : valV kvs (Sum.inr z : Key) = none) (h : Q (.bl true) H) : rDIn true (.str z) (.ref a) H Q := b_dninS e (by rw [hv]; exact h)
theorem b_niS1 {a : Addr} {kvs : List (Key × V)} {z : Str} {v : V} {H : Hp} {Q : VK} (e : H a = some (.dK kvs)) (hv : valV kvs (Sum.inr z : Key) = some v) (h : Q (.bl false) H) : rDIn true (.str z) (.ref a) H Q := b_dninS e (by rw [hv]; exact h)
theorem b_inI0 {a : Addr} {kvs : List (Key × V)} {i : Int} {H : Hp} {Q : VK} (e : H a = some (.dK kvs)) (hv : valV kvs (Sum.inl i : Key) = none) (h : Q (.bl false) H) : rDIn false (.int i) (.ref a) H Q := b_dinI e (by rw [hv]; exact h)
theorem b_inI1 {a : Addr} {kvs : List (Key × V)} {i : Int} {v : V} {H : Hp} {Q : VK} (e : H a = some (.dK kvs)) (hv : valV kvs (Sum.inl i : Key) = some v) (h : Q (.bl true) H) : rDIn false (.int i) (.ref a) H Q := b_dinI e (by rw [hv]; exact h)
theorem b_niI0 {a : Addr} {kvs : List (Key × V)} {i : Int} {H : Hp} {Q : VK} (e : H a = some (.dK kvs)) (hv : valV kvs (Sum.inl i : Key) = none) (h : Q (.bl true) H) : rDIn true (.int i) (.ref a) H Q := b_dninI e (by rw [hv]; exact h)
theorem b_niI1 {a : Addr} {kvs : List (Key × V)} {i : Int} {v : V} {H : Hp} {Q : VK} (e : H a = some (.dK kvs)) (hv : valV kvs (Sum.inl i : Key) = some v) (h : Q (.bl false) H) : rDIn true (.int i) (.ref a) H Q := b_dninI e (by rw [hv]; exact h)
theorem b_dputS {a : Addr} {kvs : List (Key × V)} {z : Str} {v : V} {H : Hp} {R : Hp → Prop} (e : H a = some (.dK kvs)) (hl : kvs.length ≤ 10000) (h : R (upd H a (.dK (putK kvs (Sum.inr z : Key) v)))) : rDPut v (.ref a) (.str z) H R := ⟨a, _, rfl, DPut.k (k := (Sum.inr z : Key)) e (Nat.lt_of_le_of_lt hl (by decide)), h⟩
theorem b_dputI {a : Addr} {kvs : List (Key × V)} {i : Int} {v : V} {H : Hp} {R : Hp → Prop} (e : H a = some (.dK kvs)) (hl : kvs.length ≤ 10000) (h : R (upd H a (.dK (putK kvs (Sum.inl i : Key) v)))) : rDPut v (.ref a) (.int i) H R := ⟨a, _, rfl, DPut.k (k := (Sum.inl i : Key)) e (Nat.lt_of_le_of_lt hl (by decide)), h⟩
/-- the argument of an append is evaluated behind the list's check -/
theorem b_appendE {K : PySem.W.Frag} {l : Addr} {xs : List V} {tl : TA} {σ : L2.St} {H : Hp} {Q : VK} (e : H l = some (.lst xs)) (h : tl σ H fun vs H1 => rAppend (.ref l) vs H1 Q) : tyV K "list" (.ref l) H ∧ tl σ H fun vs H1 => rAppend (.ref l) vs H1 Q := ⟨.inl ⟨rfl, _, SqL.of e⟩, h⟩
theorem b_app {l : Addr} {xs : List V} {y : V} {H : Hp} {Q : VK} (e : H l = some (.lst xs)) (z : xs.length ≤ 100000) (h : Q .non (upd H l (.lst (xs ++ [y])))) : rAppend (.ref l) [y] H Q := ⟨l, xs, y, rfl, rfl, e, Nat.lt_of_le_of_lt z (by decide), h⟩
mutual
theorem Dp_mono {K : PySem.W.Frag} {H H' : Hp} (e : Same H H') : ∀ (d : PyData) (v : V), Dp K H v d → Dp K H' v d
  | .none, _, h => by cases h; exact .non
  | .bool b, _, h => by cases h; exact .bl b
  | .int i, _, h => by cases h; exact .int i
  | .str x, _, h => by cases h; exact .str x
  | .list ds, _, h => by
    cases h with
    | lst hs ha => exact .lst (e.seq hs) (DpAll_mono e ds _ ha)
  | .tuple ds, _, h => by
    cases h with
    | tup hs ha => exact .tup (Same.seqT e hs) (DpAll_mono e ds _ ha)
  | .dict _, _, h => by cases h
theorem DpAll_mono {K : PySem.W.Frag} {H H' : Hp} (e : Same H H') : ∀ (ds : List PyData) (vs : List V), DpAll K H vs ds → DpAll K H' vs ds
  | [], _, h => by cases h; exact .nil
  | d :: ds, _, h => by
    cases h with
    | cons h1 h2 => exact .cons (Dp_mono e d _ h1) (DpAll_mono e ds _ h2)
end
theorem DpAll_len {K : PySem.W.Frag} {H : Hp} : ∀ {vs : List V} {ds : List PyData}, DpAll K H vs ds → vs.length = ds.length
  | _, _, .nil => rfl
  | _, _, .cons _ h => congrArg Nat.succ (DpAll_len h)
theorem DpAll_at {K : PySem.W.Frag} {H : Hp} : ∀ {vs : List V} {ds : List PyData}, DpAll K H vs ds → ∀ {i : Nat} {v : V}, vs[i]? = some v → ∃ d, ds[i]? = some d ∧ Dp K H v d
  | _, _, .nil, i, v, e => by simp at e
  | _, _, .cons h _, 0, v, e => by simp at e; subst e; exact ⟨_, rfl, h⟩
  | _, _, .cons _ h, i + 1, v, e => by obtain ⟨d, h1, h2⟩ := DpAll_at h (i := i) (v := v) (by simpa using e); exact ⟨d, by simpa using h1, h2⟩
/-! ### tuples stay while lists change -/
def SameT (H H' : Hp) : Prop := (∀ a xs, H a = some (.tup xs) → H' a = some (.tup xs)) ∧ ∀ a o xs, H a = some (.frz o (.tup xs)) → H' a = some (.frz o (.tup xs))
theorem SameT.refl (H : Hp) : SameT H H := ⟨fun _ _ h => h, fun _ _ _ h => h⟩
theorem SameT.trans {H H1 H2 : Hp} (a : SameT H H1) (b : SameT H1 H2) : SameT H H2 := ⟨fun c xs h => b.1 c xs (a.1 c xs h), fun c o xs h => b.2 c o xs (a.2 c o xs h)⟩
theorem SameT.of {H H' : Hp} (e : Same H H') : SameT H H' := ⟨fun a _ h => e a _ h, fun a _ _ h => e a _ h⟩
theorem SameT.lst {H : Hp} {l : Addr} {xs : List V} {o : HO} (h : H l = some (.lst xs)) : SameT H (upd H l o) :=
  ⟨fun a ys e => by rw [upd_ne (ne_of e h (by intro z; cases z))]; exact e, fun a u ys e => by rw [upd_ne (ne_of e h (by intro z; cases z))]; exact e⟩
theorem SameT.dK {H : Hp} {l : Addr} {xs : List (Key × V)} {o : HO} (h : H l = some (.dK xs)) : SameT H (upd H l o) :=
  ⟨fun a ys e => by rw [upd_ne (ne_of e h (by intro z; cases z))]; exact e, fun a u ys e => by rw [upd_ne (ne_of e h (by intro z; cases z))]; exact e⟩
theorem SameT.ins {H : Hp} {l C dx : Addr} {fs : List (Str × V)} {o : HO} (h : H l = some (.ins C dx fs)) : SameT H (upd H l o) :=
  ⟨fun a ys e => by rw [upd_ne (ne_of e h (by intro z; cases z))]; exact e, fun a u ys e => by rw [upd_ne (ne_of e h (by intro z; cases z))]; exact e⟩
theorem SameT.new {H : Hp} {p : Addr} {o : HO} (h : H p = none) : SameT H (upd H p o) := SameT.of (Same.new h)
theorem SameT.sq {K : PySem.W.Frag} {H H' : Hp} {a : Addr} {xs : List V} (e : SameT H H') (h : SqT K H a xs) : SqT K H' a xs := by
  rcases h with (h | ⟨o, h⟩) | h
  · exact .inl (.inl (e.1 _ _ h))
  · exact .inl (.inr ⟨o, e.2 _ _ _ h⟩)
  · exact .inr h
/-! data of tuples alone -/
mutual
def tupOnly : PyData → Bool
  | .list _ => false
  | .dict _ => false
  | .tuple ds => tupOnlyAll ds
  | _ => true
def tupOnlyAll : List PyData → Bool
  | [] => true
  | d :: ds => tupOnly d && tupOnlyAll ds
end
mutual
theorem Dp_tup {K : PySem.W.Frag} {H H' : Hp} (e : SameT H H') : ∀ (d : PyData) (v : V), tupOnly d = true → Dp K H v d → Dp K H' v d
  | .none, _, _, h => by cases h; exact .non
  | .bool b, _, _, h => by cases h; exact .bl b
  | .int i, _, _, h => by cases h; exact .int i
  | .str x, _, _, h => by cases h; exact .str x
  | .list _, _, t, _ => by unfold tupOnly at t; cases t
  | .tuple ds, _, t, h => by
    cases h with
    | tup hs ha => exact .tup (e.sq hs) (DpAll_tup e ds _ (by unfold tupOnly at t; exact t) ha)
  | .dict _, _, t, _ => by unfold tupOnly at t; cases t
theorem DpAll_tup {K : PySem.W.Frag} {H H' : Hp} (e : SameT H H') : ∀ (ds : List PyData) (vs : List V), tupOnlyAll ds = true → DpAll K H vs ds → DpAll K H' vs ds
  | [], _, _, h => by cases h; exact .nil
  | d :: ds, _, t, h => by
    unfold tupOnlyAll at t
    obtain ⟨t1, t2⟩ := Bool.and_eq_true_iff.mp t
    cases h with
    | cons h1 h2 => exact .cons (Dp_tup e d _ t1 h1) (DpAll_tup e ds _ t2 h2)
end
theorem DpAll_app {K : PySem.W.Frag} {H : Hp} : ∀ {vs ws : List V} {ds es : List PyData}, DpAll K H vs ds → DpAll K H ws es → DpAll K H (vs ++ ws) (ds ++ es)
  | _, _, _, _, .nil, h => h
  | _, _, _, _, .cons h1 h2, h => .cons h1 (DpAll_app h2 h)
theorem tupOnlyAll_app : ∀ {ds es : List PyData}, tupOnlyAll ds = true → tupOnlyAll es = true → tupOnlyAll (ds ++ es) = true
  | [], _, _, h => h
  | d :: ds, es, h1, h2 => by
    unfold tupOnlyAll at h1
    obtain ⟨t1, t2⟩ := Bool.and_eq_true_iff.mp h1
    show (tupOnly d && tupOnlyAll (ds ++ es)) = true
    rw [t1, tupOnlyAll_app t2 h2]
    rfl
/-! ### frozen -/
mutual
def frz : PyData → PyData
  | .list ds => .tuple (frzAll ds)
  | .tuple ds => .tuple (frzAll ds)
  | d => d
def frzAll : List PyData → List PyData
  | [] => []
  | d :: ds => frz d :: frzAll ds
end
theorem frzAll_map : ∀ ds : List PyData, frzAll ds = ds.map frz
  | [] => by unfold frzAll; rfl
  | d :: ds => by unfold frzAll; rw [frzAll_map ds]; rfl
/-- none, flags, integers, texts; rows of these, at most so deep -/
def atomD : PyData → Bool
  | .none => true
  | .bool _ => true
  | .int _ => true
  | .str _ => true
  | _ => false
def DepLe : Nat → PyData → Prop
  | 0, d => atomD d = true
  | n + 1, d => atomD d = true ∨ ∃ ds, (d = .list ds ∨ d = .tuple ds) ∧ ds.length ≤ 1000 ∧ ∀ e ∈ ds, DepLe n e
theorem frz_atom {d : PyData} (h : atomD d = true) : frz d = d := by
  cases d <;> first | (unfold frz; rfl) | cases h
theorem tup_atom {d : PyData} (h : atomD d = true) : tupOnly d = true := by
  cases d <;> first | (unfold tupOnly; rfl) | cases h
theorem frz_tup : ∀ (n : Nat) (d : PyData), DepLe n d → tupOnly (frz d) = true
  | 0, d, h => by rw [frz_atom h]; exact tup_atom h
  | n + 1, d, h => by
    rcases h with h | ⟨ds, h, _, ha⟩
    · rw [frz_atom h]; exact tup_atom h
    · have all : ∀ ds : List PyData, (∀ e ∈ ds, DepLe n e) → tupOnlyAll (frzAll ds) = true := by
        intro ds
        induction ds with
        | nil => intro _; unfold frzAll tupOnlyAll; rfl
        | cons d ds ih =>
          intro ha
          unfold frzAll tupOnlyAll
          rw [frz_tup n d (ha d (List.mem_cons_self ..)), ih fun e he => ha e (List.mem_cons_of_mem _ he)]
          rfl
      rcases h with rfl | rfl
      · unfold frz tupOnly
        exact all ds ha
      · unfold frz tupOnly
        exact all ds ha
theorem Dp_flat {K : PySem.W.Frag} {H : Hp} {v : V} {d : PyData} (h : Dp K H v d) (a : atomD d = true) : flatV v = true := by
  cases h <;> first | rfl | cases a
theorem Dp_flat_mono {K : PySem.W.Frag} {H H' : Hp} {v : V} {d : PyData} (h : Dp K H v d) (a : atomD d = true) : Dp K H' v d := by
  cases h with
  | non => exact .non
  | bl b => exact .bl b
  | int i => exact .int i
  | str x => exact .str x
  | _ => cases a
def pi_or {X : Cx} {tg l : Expr} {w1 w2 : TI} (h1 : PI X tg l w1) (h2 : PI X tg l w2) : PI X tg l (fun σ H R => w1 σ H R ∨ w2 σ H R) :=
  ⟨fun pins s σ H R I h => h.elim (h1.run pins s σ H R I) (h2.run pins s σ H R I)⟩
theorem take_succ_at {α : Type} {xs : List α} {i : Nat} {x : α} (h : xs[i]? = some x) : xs.take (i + 1) = xs.take i ++ [x] := by
  rw [List.take_add_one, h]; rfl
/-! ### instances -/
theorem putF_ne {f g : Str} {v x : V} {r : List (Str × V)} (h : ¬ g = f) : putF f v ((g, x) :: r) = (g, x) :: putF f v r := by
  show (if g = f then _ else _) = _
  rw [if_neg h]
theorem lk_hit {f : Str} {v : V} {r : List (Str × V)} : List.lookup f ((f, v) :: r) = some v := by
  simp [List.lookup]
theorem lk_ne {f g : Str} {v : V} {r : List (Str × V)} (h : (f == g) = false) : List.lookup f ((g, v) :: r) = List.lookup f r := by
  simp [List.lookup, h]
theorem a_isiC {K : PySem.W.Frag} {H : Hp} {Q : VK} {a C dx : Addr} {fs : List (Str × V)} (e : H a = some (.ins C dx fs)) (cl : Cls K C) (cb : PySem.W.findIn K (.ref C) "__class__" = some (some (.builtin "object.__class__")) ∧ PySem.W.specialIn K (.builtin "object.__class__") "__get__" = some (some (.builtin "getset_descriptor.__get__")) ∧ PySem.W.takesIn K (.builtin "object.__class__") = some true ∧ PySem.W.mroIn K C (.type "object") = some true)
    (h : Q (.bl true) H) : rIsi K [.ref a, .ref C] H Q := by
  refine ⟨_, _, _, _, true, rfl, .own C, .base (.ins e cl cb.1 cb.2.1 cb.2.2.1 cb.2.2.2), ?_, h⟩
  unfold PySem.W.kitOne
  rw [if_pos (by simp)]
theorem Paired_at {α β : Type} {R : α → β → Prop} : ∀ {xs : List α} {ys : List β}, Paired R xs ys → ∀ {i : Nat} {x : α}, xs[i]? = some x → ∃ y, ys[i]? = some y ∧ R x y
  | _, _, .nil, i, x, e => by simp at e
  | _, _, .cons h _, 0, x, e => by simp at e; subst e; exact ⟨_, rfl, h⟩
  | _, _, .cons _ h, i + 1, x, e => by obtain ⟨d, h1, h2⟩ := Paired_at h (i := i) (x := x) (by simpa using e); exact ⟨d, by simpa using h1, h2⟩
theorem Paired_at2 {α β : Type} {R : α → β → Prop} : ∀ {xs : List α} {ys : List β}, Paired R xs ys → ∀ {i : Nat} {y : β}, ys[i]? = some y → ∃ x, xs[i]? = some x ∧ R x y
  | _, _, .nil, i, x, e => by simp at e
  | _, _, .cons h _, 0, x, e => by simp at e; subst e; exact ⟨_, rfl, h⟩
  | _, _, .cons _ h, i + 1, x, e => by obtain ⟨d, h1, h2⟩ := Paired_at2 h (i := i) (y := x) (by simpa using e); exact ⟨d, by simpa using h1, h2⟩
theorem Paired_app {α β : Type} {R : α → β → Prop} : ∀ {xs xs' : List α} {ys ys' : List β}, Paired R xs ys → Paired R xs' ys' → Paired R (xs ++ xs') (ys ++ ys')
  | _, _, _, _, .nil, h => h
  | _, _, _, _, .cons h1 h2, h => .cons h1 (Paired_app h2 h)
theorem Paired_mono {α β : Type} {R S : α → β → Prop} (f : ∀ a b, R a b → S a b) : ∀ {xs : List α} {ys : List β}, Paired R xs ys → Paired S xs ys
  | _, _, .nil => .nil
  | _, _, .cons h1 h2 => .cons (f _ _ h1) (Paired_mono f h2)
/-- all but p is as it was -/
def But (p : Addr) (H H' : Hp) : Prop := ∀ b o, H b = some o → b ≠ p → H' b = some o
theorem But.of {p : Addr} {H H' : Hp} (e : Same H H') : But p H H' := fun b o h _ => e b o h
theorem But.trans {p : Addr} {H H1 H2 : Hp} (a : But p H H1) (b : But p H1 H2) : But p H H2 := fun c o h n => b c o (a c o h n) n
theorem But.upd {p : Addr} {H : Hp} {o : HO} : But p H (upd H p o) := fun b u h n => by rw [upd_ne n]; exact h
theorem But.same {p : Addr} {H H0 H' : Hp} (e : Same H0 H) (n : H0 p = none) (a : But p H H') : Same H0 H' := fun b o h => a b o (e b o h) (ne_of_none h n)
theorem But.sameT {p C dx : Addr} {fs : List (Str × V)} {H H' : Hp} (h : H p = some (.ins C dx fs)) (a : But p H H') : SameT H H' :=
  ⟨fun b xs e => a b _ e (ne_of e h (by intro z; cases z)), fun b u xs e => a b _ e (ne_of e h (by intro z; cases z))⟩
theorem b_sfld2 {K : PySem.W.Frag} {f : Str} {a C dx : Addr} {fs fs' : List (Str × V)} {y : V} {H : Hp} {R : Hp → Prop} (e : H a = some (.ins C dx fs)) (c : Cls K C) (n : NoAttr K C f) (l : fs.length < 1000) (hp : putF f y fs = fs') (h : R (upd H a (.ins C dx fs'))) : rSFld K f y (.ref a) H R := by subst hp; exact b_sfld e c n l h
theorem lk_none {f : Str} : List.lookup f ([] : List (Str × V)) = none := rfl
/-! ### the rules that name the written part, K told (a comprehension's block has the same) -/
section
variable {X : Cx} {K : PySem.W.Frag}
theorem ix_listK (h : X.K = K) : IxR X (rIxL K) := h ▸ ix_list
theorem ix_tupK (h : X.K = K) : IxR X (rIxT K) := h ▸ ix_tup
theorem op_inK (h : X.K = K) : OpR X (compareOp .In) (rIn K false) := h ▸ op_in_seq
theorem op_notInK (h : X.K = K) : OpR X (compareOp .NotIn) (rIn K true) := h ▸ op_notIn_seq
theorem op_eqDK (h : X.K = K) (hu : X.A.units + 64 < cLine) : OpR X (compareOp .Eq) (rEqD K) := h ▸ op_eqD hu
theorem op_neDK (h : X.K = K) (hu : X.A.units + 64 < cLine) : OpR X (compareOp .NotEq) (rNeD K) := h ▸ op_neD hu
theorem call_lenK (h : X.K = K) : CallR X (.builtin "len") (rLenQ K) := h ▸ call_lenQ
theorem call_listK (h : X.K = K) : CallR X (.type "list") (rListO K) := h ▸ call_listN
theorem call_tupleK (h : X.K = K) : CallR X (.type "tuple") (rTupO K) := h ▸ call_tupleN
theorem call_isiKK (h : X.K = K) : CallR X (.builtin "isinstance") (rIsi K) := h ▸ call_isi
theorem call_isiTK (h : X.K = K) : CallR X (.builtin "isinstance") (rIsiT K) := h ▸ call_isiT
theorem pe_fldK {e : Expr} {ta : TE} {f : Str} {pos : Pos} (h : X.K = K) (he : PE X e ta) (hb : attributeBase e f X.env (eval e X.env) = eval e X.env) : PE X (.Attribute e f pos) (tFld K ta f) := h ▸ pe_fld he hb
theorem sl_listK (h : X.K = K) : SlR X (rSlL K) := h ▸ sl_list
theorem sl_tupK (h : X.K = K) : SlR X (rSlT K) := h ▸ sl_tup
theorem op_inKdK {w : World} {d : Addr} {es : Array DictEntry} {n : Nat} (h : X.K = K) (hw : X.w = w) (D : KDict K w d es n) : OpR X (compareOp .In) (rInKd K d false) := by subst h hw; exact op_in_kd D
theorem op_notInKdK {w : World} {d : Addr} {es : Array DictEntry} {n : Nat} (h : X.K = K) (hw : X.w = w) (D : KDict K w d es n) : OpR X (compareOp .NotIn) (rInKd K d true) := by subst h hw; exact op_notIn_kd D
end
/-! ### list(d.values()) -/
def tVals (td : TE) : TE := fun σ H Q => td σ H fun x H1 => ∃ a kvs, x = .ref a ∧ H1 a = some (.dK kvs) ∧ ∀ v, H1 v = none → Q (.ref v) (upd H1 v (.ext (fun h => h.IsValuesView v a)))
section
variable {X : Cx} {o : Expr} {td : TE} {apos mpos : Pos}
theorem pe_dvalues (hd : PE X o td) (hbase : attributeBase o "values" X.env (eval o X.env) = eval o X.env := by rfl) (hline : (apos.endLine == mpos.line) = true := by rfl) :
    PE X (.Call (.Attribute o "values" apos) [] [] mpos) (tVals td) := by
  refine ⟨fun pins s σ H Q I h => ?_⟩
  refine wpAny_Call_method0_late hbase hline (thn (hd.run pins s σ H _ I h) fun v s1 ⟨x, H1, I1, r1, a, kvs, ex, ha, q⟩ => ?_)
  subst ex
  obtain rfl : v = Value.ref a := r1
  obtain ⟨_, hsys, vs, rel, dof⟩ := dk_of I1.hok ha
  obtain ⟨ep, dat⟩ := dof.dictAt
  have dat' := dat
  obtain ⟨ob, es, ho, ex, hdat, hko, hpr, hnd⟩ := dat'
  refine ⟨"dict", "dict.values", F.plainAttrs_dict, F.slot_dict_values, F.type_dict_values, ⟨ob, ho, ex.1⟩, fun b e => ?_, Calls.callWith_builtin rfl (PySem.evalArgs_none ?_)⟩
  · cases e
    exact ⟨ob, ho, ex.2.1⟩
  refine call_meetsIn F.slot_dict_values ⟨ob, ho, ex.1⟩ F.entry_dict_values (F.args_dict_values_1 _) (meets_dict_values (mixKind X.prog X.w) a hsys) ⟨⟨vs, dof⟩, ?_⟩
  refine ⟨.ref s1.heap.objs.size, _, I1.laid (t' := s1.toks) (a := s1.heap.objs.size) (o := .ext (fun h => h.IsValuesView s1.heap.objs.size a)) (fun b u e => Heap.get?_push_of_some _ e) (Nat.le_refl _) ?_, rfl, q _ (I1.hok.fresh (Nat.le_refl _))⟩
  refine ⟨⟨_, Heap.get?_push_size _ rfl, rfl, rfl⟩, ⟨_, Heap.get?_push_size _ rfl⟩, fun h1 h2 hv hk => ?_⟩
  obtain ⟨o, h3, h4⟩ := hv
  exact ⟨o, hk _ h3, h4⟩
end
def rListV : List V → Hp → VK → Prop := fun xs H Q => ∃ v a kvs, xs = [.ref v] ∧ H v = some (.ext (fun h => h.IsValuesView v a)) ∧ H a = some (.dK kvs) ∧ ∀ l, H l = none → Q (.ref l) (upd H l (.lst (kvs.map (·.2))))
theorem call_listV {X : Cx} (hc : X.calm = true) : CallR X (.type "list") rListV := by
  intro pins s σ H xs us Q I r h
  obtain ⟨p, a, kvs, e, hv, hk, q⟩ := h
  subst e
  obtain ⟨u, eu, rx⟩ := vals1 r
  subst eu
  obtain rfl : u = Value.ref p := rx
  obtain ⟨hvw, _, _⟩ := (show ObjOk X.prog X.w H s.heap p (.ext (fun h => h.IsValuesView p a)) from I.hok p _ hv)
  obtain ⟨z, lo, vs, rk, hd⟩ := (show ObjOk X.prog X.w H s.heap a (.dK kvs) from I.hok a _ hk)
  obtain ⟨es, ep, hraw, hsz, hat⟩ := PySem.Heap.DictOf.raw hd
  have hl : kvs.length = vs.length := Paired.length rk
  refine PySem.W.kdl_call (PySem.KdlSrc.rawValues (prog := X.prog) (w := X.w) (r := p) (d := a) (es := es) (ep := ep)) (I.ok.hd hc) ⟨hvw, hraw⟩ (by rw [hsz, ← hl]; exact z) fun h' tk acc' c' hkeep hS hacc => ?_
  refine ⟨.ref s.heap.objs.size, upd H s.heap.objs.size (.lst (kvs.map (·.2))), I.laid hkeep (Nat.le_refl _) (show ObjOk X.prog X.w _ _ _ (.lst (kvs.map (·.2))) from ⟨?_, acc'.toList, c', ?_, ?_⟩), rfl, q _ (I.hok.fresh (Nat.le_refl _))⟩
  · rw [List.length_map]; exact z
  · have el : acc'.toList.length = acc'.size := by simp
    refine vals_of_at (by rw [List.length_map, el, hacc.1, hsz, hl]) fun j x w h1 h2 => ?_
    obtain ⟨hj, e1⟩ := hacc.2 j w (by rw [← Array.getElem?_toList]; exact h2)
    rw [List.getElem?_map] at h1
    obtain ⟨kv, h3, h4⟩ := Option.map_eq_some_iff.mp h1
    have hlt : j < vs.length := by rw [← hsz]; exact hj
    have hvj : vs[j]? = some (vs[j].1, vs[j].2) := List.getElem?_eq_getElem hlt
    have e2 := (hat j hj _ _ hvj).2
    obtain ⟨y, h5, h6⟩ := Paired_at2 rk hvj
    rw [h3] at h5
    have h7 : kv = y := Option.some.inj h5
    subst h4
    rw [e1, e2, h7]
    exact h6.2
  · rw [Array.toArray_toList]; exact hS
theorem a_vals {td : TE} {σ : L2.St} {H : Hp} {Q : VK} (h : td σ H fun x H1 => ∃ a kvs, x = .ref a ∧ H1 a = some (.dK kvs) ∧ ∀ v, H1 v = none → Q (.ref v) (upd H1 v (.ext (fun h => h.IsValuesView v a)))) : tVals td σ H Q := h
theorem b_listV {v a : Addr} {kvs : List (Key × V)} {H : Hp} {Q : VK} (e : H v = some (.ext (fun h => h.IsValuesView v a))) (d : H a = some (.dK kvs)) (h : ∀ l, H l = none → Q (.ref l) (upd H l (.lst (kvs.map (·.2))))) : rListV [.ref v] H Q := ⟨v, a, kvs, rfl, e, d, h⟩
theorem a_gsub {to ti : TE} {t : TSet} {v : V} {σ : L2.St} {H : Hp} {k : L2.St → Hp → Prop} (h : to σ H fun o H1 => ti σ H1 fun i H2 => t o i v H2 fun H3 => k σ H3) : gSub to ti t v σ H k := h
theorem b_set {l : Addr} {xs : List V} {i : Nat} {v : V} {H : Hp} {R : Hp → Prop} (e : H l = some (.lst xs)) (hi : i < xs.length) (h : R (upd H l (.lst (xs.set i v)))) : rSetL (.ref l) (.int (i : Nat)) v H R := by
  refine ⟨l, xs, _, i, rfl, rfl, e, ?_, h⟩
  unfold ixN
  rw [if_pos (by omega), if_pos (by omega), Int.toNat_natCast]
abbrev nV (ws : List Nat) : List V := ws.map fun (p : Nat) => V.int (p : Nat)
abbrev bV (bs : List Bool) : List V := bs.map V.bl
/-! cuts: a test, a statement, each with what is known behind it -/
theorem t_cut {t : TT} {σ : L2.St} {H : Hp} {R : Bool → Hp → Prop} (Pt : Bool → Hp → Prop) (h1 : ∀ R' : Bool → Hp → Prop, (∀ c H', Pt c H' → R' c H') → t σ H R') (h2 : ∀ c H', Pt c H' → R c H') : t σ H R := h1 R h2
theorem e_cut {t : TE} {σ : L2.St} {H : Hp} {R : VK} (Pt : VK) (h1 : ∀ R' : VK, (∀ c H', Pt c H' → R' c H') → t σ H R') (h2 : ∀ c H', Pt c H' → R c H') : t σ H R := h1 R h2
theorem s_cut {a b : TS} {D : Ends} {σ : L2.St} {H : Hp} (Mid : L2.St → Hp → Prop) (h1 : ∀ nx' : L2.St → Hp → Prop, (∀ σ' H', Mid σ' H' → nx' σ' H') → a { D with nx := nx' } σ H) (h2 : ∀ σ' H', Mid σ' H' → b D σ' H') : tSeq a b D σ H := h1 _ h2
/-! a dict that is walked is frozen -/
theorem Same.frozen {H H' : Hp} {d : Addr} {u : HO} {od : Obj} (h : H d = some u) (e : Same (upd H d (.frz od u)) H') : Same H (upd H' d u) := fun b o hb => by
  by_cases x : b = d
  · subst x
    rw [upd_same]
    rw [h] at hb
    exact hb
  · rw [upd_ne x]
    exact e b o (by rw [upd_ne x]; exact hb)
theorem bat {bs : List Bool} {i : Nat} {b : Bool} (h : bs[i]? = some b) : atI (bs.map V.bl) (i : Nat) = some (.bl b) := atI_nat (by rw [List.getElem?_map, h]; rfl)
theorem nat_at {ps : List Nat} {i p : Nat} (h : ps[i]? = some p) : atI (ps.map fun (p : Nat) => V.int (p : Nat)) (i : Nat) = some (.int (p : Nat)) := atI_nat (by rw [List.getElem?_map, h]; rfl)
theorem b_dgetSF {a : Addr} {kvs : List (Key × V)} {z : Str} {v : V} {o : Obj} {H : Hp} {Q : VK} (e : H a = some (.frz o (.dK kvs))) (hv : valV kvs (Sum.inr z : Key) = some v) (h : Q v H) : rDGet (.ref a) (.str z) H Q := ⟨a, v, rfl, .inl ⟨kvs, Sum.inr z, .inr ⟨o, e⟩, rfl, hv.symm⟩, h⟩
theorem a_rng2 {t : TA} {g : TG} {tb : TS} {D : Ends} {σ : L2.St} {H : Hp} (h : t σ H fun vs H1 => ∃ i j : Int, vs = [.int i, .int j] ∧ (-2 ^ 62 ≤ i ∧ i < 2 ^ 62 ∧ -2 ^ 62 ≤ j ∧ j < 2 ^ 62) ∧ tFor (fun _ H R => R (Itr i (j - i).toNat) H) g tb D σ H1) : tFor (iRng2 t) g tb D σ H := h
/-! ### name = {k: v for ..} on one line -/
section
variable {X : Cx}
theorem ps_setDc {i : Nat} {y : Str} {py : Pos} {kx vx tg iter : Expr} {ifs : List Expr} {scope : Scope} {own : List (Str × Nat)} {pos spos : Pos} {wi : TI} {g : TG} {tt : TT} {tk tv : TE} (hc : X.calm = true) (hN : X.N.Nodup) (hy : X.N[i]? = some y) (hyl : X.env.scope.names.lookup y = some .local)
    (hsw : swapsWith (.DictComp kx vx [⟨tg, iter, ifs, 0⟩] scope pos) (some (.Name y py)) spos.line X.env = pure true) (hi : PI X tg iter wi) (ok : BlkOk X.N X.env.scope scope own)
    (hg : ∀ (s : Shared) (H : Hp) (C : Addr) (cl : List (Str × Addr)) (fp : List Addr), PG (X.blk s H scope (compEnvC scope cl C X.env) fp) tg g) (ht : ∀ (s : Shared) (H : Hp) (C : Addr) (cl : List (Str × Addr)) (fp : List Addr), PTs (X.blk s H scope (compEnvC scope cl C X.env) fp) ifs tt)
    (hk : ∀ (s : Shared) (H : Hp) (C : Addr) (cl : List (Str × Addr)) (fp : List Addr), PE (X.blk s H scope (compEnvC scope cl C X.env) fp) kx tk)
    (he : ∀ (s : Shared) (H : Hp) (C : Addr) (cl : List (Str × Addr)) (fp : List Addr), PE (X.blk s H scope (compEnvC scope cl C X.env) fp) vx tv) (hs : ∀ x, foldedSetIterable iter X.env x = pure x := by intro _; rfl) :
    PS X (.Assign [.Name y py] (.DictComp kx vx [⟨tg, iter, ifs, 0⟩] scope pos) spos) (tAsg (tDc wi g tt tk tv (own.map (·.2))) (gName i)) := by
  refine ⟨fun pins s σ H D I h => ?_⟩
  rw [exec_Assign_Name_used _ _ _ _ hsw]
  refine wpAny_bind (wpAny_standAt (wpAny_bind ?_))
  show wpAny _ X.A (do let _ ← comprehension (.DictComp kx vx [⟨tg, iter, ifs, 0⟩] scope pos) scope X.env (firstIterPos [⟨tg, iter, ifs, 0⟩] pos) newDict false (eval iter X.env) (some (assign (.Name y py) X.env))) _ _ s
  have h : tDc wi g tt tk tv (own.map (·.2)) σ H (fun x H1 => gName i x σ H1 D.nx) := h
  refine wpAny_bind (thn (dc_core (Qf := fun _ s' => SP X pins D .next s') hc hN I hi ok hg ht hk he hs h fun L C s' m H' I' q hn f => ?_) fun _ s' hq => wpAny_pure (wpAny_pure hq))
  show wpAny _ _ (assign (.Name y py) X.env (.ref L)) _ _ _
  refine wpAny_assign_Name (store_ok2 (v := V.ref L) I' hN hy (.inl hyl) rfl (fun s2 I2 ⟨a, sb, ha⟩ => ?_) (.inr hyl))
  obtain ⟨f0, f1, f2, f3, f4, f5⟩ := f
  have haC : C ≠ a := by
    rcases ha with z | z
    · rw [z]; exact f1
    · exact fun e => f4 y a z e.symm
  refine ⟨m, hn.sameBut sb haC, fun h3 sb3 => ?_⟩
  exact ⟨_, H', I2.turned (t' := s2.toks) (fun b o hb e => (sb3.2 b hb).trans e) f0 f1 f3 f4 f5, q⟩
theorem sw_trueD {kx vx : Expr} {gs : List Comprehension} {scope : Scope} {pos py : Pos} {y : Str} {l : Nat} {env : Env} (hk : env.scope.kind = .function) (hy : env.scope.names.lookup y = some .local) (hl : (py.line == pos.line) = true)
    (ha : (scope.names.any fun (n, k) => n == y && (k == .local || k == .cell)) = false) : swapsWith (.DictComp kx vx gs scope pos) (some (.Name y py)) l env = pure true := by
  have ky : env.kindOf y = some .local := hy
  have hb : env.blockKind = .function := by unfold Env.blockKind; rw [hk]; rfl
  unfold swapsWith
  simp only [hb, ky, ha, Expr.pos, hl]
  rfl
end
/-- a def that is called by its one parameter's name -/
structure CalK (P : Program) (w : World) (K : PySem.W.Frag) (mg : Str → Option Value) (base : Heap) (k : Nat) (x nm : Str) (sp : Sp) : Prop where
  ex : ∃ (f : Addr) (fd : FuncData), FnOk P w K mg base CX0 k f fd [nm] sp ∧ mg x = some (.ref f) ∧ PySem.W.keepIn K (.ref f) = true ∧ ∀ (s : Shared) (u : Value), K.In s.heap → BindsTo s fd ⟨[], [(nm, u)]⟩ [(nm, u)]
theorem bindsK1 {K : PySem.W.Frag} {x qual nm : Str} {params : Arguments} {body : List Stmt} {scope : Scope} {kws : List (Str × V)} {f : Addr} {fd : FuncData} (F : FunD K x qual params body scope [] kws f fd)
    (h : ∀ (kV doc pm : Value) (an : Option Addr) (cdv ct u : Value), bindArgs (PySem.W.fnOf x qual params body scope .none kV doc pm an cdv ct) ⟨[], [(nm, u)]⟩ = pure [(nm, u)]) (s : Shared) (u : Value) : BindsTo s fd ⟨[], [(nm, u)]⟩ [(nm, u)] := by
  obtain ⟨oc, od, dV, kV, doc, pm, an, cdv, ct, osl, rfl, lk, hcd, hD, hK⟩ := F.ex
  rcases hD with ⟨_, rfl⟩ | ⟨e, _⟩
  · exact .of_eq (h kV doc pm an cdv ct u)
  · exact absurd rfl e
/-! ### the text's own == and len, behind != and len; a call by keywords alone -/
section
variable {prog : Program} {w : World} {A : Around} {E : Value → Shared → Prop} {K : PySem.W.Frag} {x y C f : Addr} {h₀ : Heap} {ox : Obj} {od : Option Obj}
open PySem.W in
theorem ifBound_ne {M : Model} {s : Shared} {args : List Value} {Q : Option Value → Shared → Prop} (X : K.In s.heap) (I : InstAt s.heap x ox C od) (hs : findIn K (.ref C) "__ne__" = some (some (.builtin "object.__ne__")))
    (h : wpAny M A (call (.builtin "object.__ne__") (.ref x :: args)) (fun v => Q (some v)) E s) : wpAny M A (callSpecialIfBound? (.ref x) "__ne__" args) Q E s := by
  simp only [callSpecialIfBound?, bindSpecialIfBound?]
  refine wpAny_holding (wpAny_bind (wpAny_bind (wpAny_bind (I.type.here ((looks_findIn X hs).here ?_)))))
  simp only [F.cmp_object.ne.bind]
  refine wpAny_bind (wpAny_askSetting (wpAny_ite ?_))
  have fin : wpAny M A (call (.builtin "object.__ne__") ([.ref x] ++ args) >>= fun v => pure (some v)) Q E s := wpAny_bind (wpAny_mono h (fun v s' h' => wpAny_pure h') fun _ _ h' => h')
  split
  · exact wpAny_bind (wpAny_pure (wpAny_pure fin))
  · exact wpAny_tryCatch (wpAny_bind (wpAny_pure (wpAny_pure fin)))
open PySem.W in
theorem objNe_K {s : Shared} (hu : A.units < cLine) (X : K.In s.heap) (I : InstAt s.heap x ox C od) (hs : findIn K (.ref C) "__eq__" = some (some (.ref f))) (hf : isFn K (.ref f) = true) {Q : Fin → Shared → Prop}
    (hcall : wpAny (model prog w) A (call (.ref f) [.ref x, .ref y]) (fun v s' => ∃ b, v = .bool b ∧ Q (.done (.ret (.bool (!b)))) s') E s) :
    wpAny (model prog w) A (Builtin.«object.__ne__» ⟨[.ref x, .ref y], []⟩) Q E s := by
  obtain ⟨h, g, d, t, os⟩ := s
  unfold Builtin.«object.__ne__»
  repeat (first
    | with_reducible refine wpAny_cRoomFor hu ?_
    | (refine wpAny_bind (m := callSpecialIfBound? (.ref x) (Str.ofString "__eq__") [.ref y])
        (ifBound_K X I hs hf (wpAny_mono hcall (fun r s' hr => by
          obtain ⟨b, rfl, hq⟩ := hr
          repeat (first | exact hq | exact wpAny_pure hq | exact wpAny_truthy_bool hq | (refine wpAny_bind (m := truthy (.bool _)) (wpAny_truthy_bool ?_)) | wp_step)) fun _ _ e => e)))
    | wp_step)
open PySem.W in
theorem rich_ne_K {s : Shared} {oy : Obj} (hu : A.units + 1 < cLine) (X : K.In s.heap) (I : InstAt s.heap x ox C od) (hy : s.heap.get? y = some oy) (hyc : oy.cls = .ref C) (hm : mroIn K C (.type "object") = some true)
    (hn : findIn K (.ref C) "__ne__" = some (some (.builtin "object.__ne__"))) (hs : findIn K (.ref C) "__eq__" = some (some (.ref f))) (hf : isFn K (.ref f) = true) {Q : Value → Shared → Prop}
    (hcall : wpAny (model prog w) A.in1 (call (.ref f) [.ref x, .ref y]) (fun v s' => ∃ b, v = .bool b ∧ Q (.bool (!b)) s') E s) :
    wpAny (model prog w) A (compareOp .NotEq (.ref x) (.ref y)) Q E s := by
  have t2 : Looks (model prog w) s.heap (isInstance (.ref x) (.type "object")) true := I.type.andThen (looks_mroIn X hm)
  unfold compareOp
  unfold richCompare
  simp only [oneThing_ref]
  refine wpAny_holding ?_
  refine wpAny_bind (wpAny_cRoomFor (Nat.lt_of_succ_lt hu) ?_)
  rw [cmpInfo_NotEq]
  dsimp only
  refine wpAny_bind (wpAny_typeOf_ref I.at_ ?_)
  rw [I.cls]
  refine wpAny_bind (wpAny_typeOf_ref hy ?_)
  rw [hyc]
  rw [show (Value.ref C != Value.ref C) = false from by simp]
  simp only [Bool.false_eq_true, if_false]
  refine wpAny_bind (wpAny_pure ?_)
  simp only [Bool.false_eq_true, if_false]
  have try_ : wpAny (model prog w) A (tryCompare (.ref x) "__ne__" (.ref y)) (fun r s' => ∃ b, r = some (.bool b) ∧ Q (.bool b) s') E s := by
    simp only [tryCompare]
    refine wpAny_bind (ifBound_ne X I hn (wpAny_call (codeAny_call_builtin F.cmp_object.ne.plain F.cmpEntry_ne
      (@check_slot (model prog w) _ _ _ "object.__ne__" "object" "__ne__" (.ref x) [.ref y] [] _ F.cmpKind_ne F.cmpSplit_ne t2 (F.cmpArgs_ne _ _)
        (objNe_K (A := A.in1) hu X I hs hf (wpAny_mono hcall (fun v s' hv => ?_) fun _ _ e => e))))))
    obtain ⟨b, rfl, hq⟩ := hv
    first | exact ⟨_, rfl, wpAny_pure ⟨_, rfl, hq⟩⟩ | exact ⟨b, rfl, wpAny_pure (wpAny_pure ⟨_, rfl, hq⟩)⟩ | exact ⟨b, rfl, ⟨_, rfl, hq⟩⟩
  refine wpAny_bind (wpAny_mono try_ (fun v s' hv => ?_) fun _ _ e => e)
  obtain ⟨b, rfl, hq⟩ := hv
  first | exact wpAny_pure hq | exact wpAny_pure (wpAny_pure hq)
end
section
variable {X : Cx} {k : Nat} {C : Addr} {m : Str} {ps : List Str} {sp : Sp}
theorem run_fnA {A : Around} {CX : CXT} {f : Addr} {fd : FuncData} {E : XK} {pins : List (Addr × Obj)} {σ : L2.St} {H : Hp} {s : Shared} {Q : VK} {us : List Value} {vs : List V} (F : FnOk X.prog X.w X.K X.mg X.base CX k f fd ps sp) (rm : Room k A) (fr : A.frames = X.A.frames) (hb : Binds X.K fd ps []) (hx : Passes CX X E)
    (I : Inv X pins σ H s) (r : Vals vs us) (h : sp vs H Q E) : wpAny (model X.prog X.w) A (call (.ref f) us) (EP X pins σ Q) X.xe s := by
  have e0 : Env0 X.prog X.w X.K X.mg X.base A X.stack s H := by
    have e := I.env0
    exact ⟨by rw [fr]; exact e.frames, e.mod, e.bs, e.bsz, e.funs, e.frf, e.hok, e.bare⟩
  have hl := F.len _ _ _ _ h
  refine wpAny_call (codeAny_mono (F.run A X.stack s H ⟨us, []⟩ us vs Q E rm e0 (by
    have := hb s us I.kIn (by rw [List.append_nil, ← r.length]; exact hl)
    simpa using this) r h) fun r s' hq => ?_)
  cases r with
  | error e => exact hx pins σ H s e s' I hq
  | ok fl =>
    cases fl with
    | ret u => exact I.after hq
    | next => exact False.elim hq
    | brk => exact False.elim hq
    | cont => exact False.elim hq
/-- a != b, two instances of the class at C with the text's own == -/
def rNeI (C : Addr) (sp : Sp) : R2 := fun x y H Q => ∃ a b dx dy fs gs, x = .ref a ∧ y = .ref b ∧ H a = some (.ins C dx fs) ∧ H b = some (.ins C dy gs) ∧ sp [.ref a, .ref b] H (fun v H' => ∃ c, v = .bl c ∧ Q (.bl (!c)) H') E0
theorem op_neI (M : CalM X.prog X.w X.K X.mg X.base k C "__eq__" ps sp) (hr : Room (k + 1) X.A) (hm : PySem.W.mroIn X.K C (.type "object") = some true) (hn : PySem.W.findIn X.K (.ref C) "__ne__" = some (some (.builtin "object.__ne__"))) :
    OpR X (compareOp .NotEq) (rNeI C sp) := by
  intro pins s σ H x y v u Q I rx ry h
  obtain ⟨a, b, dx, dy, fs, gs, rfl, rfl, ha, hb', hsp⟩ := h
  cases rx
  cases ry
  obtain ⟨f, fd, F, mm, bb⟩ := M.ex
  obtain ⟨mA, J, _⟩ := ins_get I.hok ha
  obtain ⟨mB, J', _⟩ := ins_get I.hok hb'
  obtain ⟨od, J, _⟩ := J.look
  obtain ⟨od', J', _⟩ := J'.look
  have r2 : Vals [V.ref a, V.ref b] [Value.ref a, Value.ref b] := .cons rfl (.cons rfl .nil)
  refine rich_ne_K (by have := hr.un; omega) I.kIn J J'.at_ J'.cls hm hn mm.at_ mm.fn ?_
  refine wpAny_mono (run_fnA F hr.in1 rfl bb pass0 I r2 hsp) (fun r s' q => ?_) fun _ _ e => e
  obtain ⟨z, H', I', rz, c, ez, q⟩ := q
  subst ez
  cases rz
  exact ⟨c, rfl, .bl (!c), H', I', rfl, q⟩
def rLenI (C : Addr) (sp : Sp) : List V → Hp → VK → Prop := fun xs H Q => ∃ a dx fs, xs = [.ref a] ∧ H a = some (.ins C dx fs) ∧ sp [.ref a] H (fun v H' => ∃ n : Nat, v = .int (n : Nat) ∧ n < 1000000 ∧ Q (.int (n : Nat)) H') E0
theorem call_lenI (M : CalM X.prog X.w X.K X.mg X.base k C "__len__" ps sp) (hr : Room (k + 1) X.A) : CallR X (.builtin "len") (rLenI C sp) := by
  intro pins s σ H xs us Q I r h
  obtain ⟨a, dx, fs, rfl, ha, hsp⟩ := h
  obtain ⟨u, rfl, ru⟩ := vals1 r
  cases ru
  obtain ⟨f, fd, F, mm, bb⟩ := M.ex
  obtain ⟨mA, J, _⟩ := ins_get I.hok ha
  obtain ⟨od, J, _⟩ := J.look
  obtain ⟨m, hF⟩ := I.fr
  have r2 : Vals [V.ref a] [Value.ref a] := .cons rfl .nil
  refine PySem.W.len_K hF I.ok.mod.kin J mm.at_ mm.fn ?_
  refine wpAny_mono (run_fnA F hr.in1 rfl bb pass0 I r2 hsp) (fun r s' q => ?_) fun _ _ e => e
  obtain ⟨z, H', I', rz, n, ez, hn, q⟩ := q
  subst ez
  obtain ⟨t, rfl⟩ := (show ∃ t, r = Value.int (n : Nat) t from rz)
  exact ⟨⟨by omega, by omega⟩, .int (n : Nat), H', I'.tok _, ⟨_, rfl⟩, q⟩
/-- f(k = v): keywords alone, by the parameters' names in order -/
theorem pe_clK0 {x : Str} {p pos kpos : Pos} {e : Expr} {te : TE} {nm : Str} {f : Addr} {fd : FuncData} (F : FnOk X.prog X.w X.K X.mg X.base CX0 k f fd [nm] sp) (hr : Room k X.A) (hg : Gl X x) (hm : X.mg x = some (.ref f)) (hk : PySem.W.keepIn X.K (.ref f) = true)
    (hb : ∀ (s : Shared) (u : Value), X.K.In s.heap → BindsTo s fd ⟨[], [(nm, u)]⟩ [(nm, u)]) (he : PE X e te) (hdb : (x == ("__debug__" : Str)) = false := by decide) :
    PE X (.Call (.Name x p) [] [⟨some nm, e, kpos⟩] pos) (tCall sp [] E0 (tCons te tNil)) := by
  refine ⟨fun pins s σ H Q I h => ?_⟩
  refine wpAny_Call_Name_kw (ld_glob I hg hm ?_ hdb)
  refine PySem.W.callWith_KW0 (h₀ := X.base) I.ok.mod.kin hk (by rfl) (thn ((pk_cons he pk_nil).run pos pins s σ H _ I h) fun ws s1 ⟨vs, H1, I1, r, q⟩ => ⟨I1.kIn, ?_⟩) (by rfl)
  have q' : sp vs H1 Q E0 := by
    have : sp (vs ++ []) H1 Q E0 := q
    rwa [List.append_nil] at this
  have hl := F.len _ _ _ _ q'
  obtain ⟨v, rfl⟩ : ∃ v, vs = [v] := by
    match vs, hl with
    | [v], _ => exact ⟨v, rfl⟩
  obtain ⟨u, rfl, ru⟩ := vals1 r
  show wpAny _ _ (call (.ref f) [] [(nm, u)]) _ _ _
  refine wpAny_call (codeAny_mono (F.run X.A X.stack s1 H1 ⟨[], [(nm, u)]⟩ [u] [v] Q E0 hr I1.env0 (hb s1 u I1.kIn) r q') fun r s' hq => ?_)
  cases r with
  | error e => exact pass0 pins σ H1 s1 e s' I1 hq
  | ok fl =>
    cases fl with
    | ret u => exact I1.after hq
    | next => exact False.elim hq
    | brk => exact False.elim hq
    | cont => exact False.elim hq
end

end T51

set_option Elab.async false
set_option linter.all false
set_option maxRecDepth 100000
set_option maxHeartbeats 4000000
namespace T51
open PySem PySem.Spec PyProof.Rows L2
local macro_rules | `(tactic| walk_at "rd1") => `(tactic| with_reducible first
  | refine a_seq ?_ | refine a_var rfl ?_ | refine a_c ?_ | refine a_op ?_ | refine a_cons ?_ | refine a_nil ?_ | refine a_cb ?_ | refine a_asg ?_ | refine a_gname ?_ | refine a_ret ?_
  | refine a_if ?_ | refine a_test ?_ | refine a_tB ?_ | refine a_blP ?_ | refine a_and ?_ | refine a_or ?_ | refine a_not ?_ | refine a_andV ?_ | refine a_orV ?_ | refine a_notV ?_ | refine a_ifE ?_
  | refine a_rI0 ?_ | refine a_eqS ?_ | refine a_eqI ?_ | refine a_neS ?_ | refine a_neI ?_ | refine a_call ?_ | refine a_tup ?_ | refine a_lst ?_ | refine a_chain ?_ | refine a_iteT ?_ | refine a_iteF ?_ | refine a_iteNT ?_ | refine a_iteNF ?_
  | refine a_drop ?_ | refine a_next ?_ | refine a_cont ?_ | refine a_break ?_ | refine a_retN ?_ | refine a_ipI ?_ | refine a_aug rfl ?_ | refine a_bm ?_ | refine a_bm0 ?_ | refine b_ord ?_ | refine b_int ?_ | refine b_isN ?_ | refine b_notN ?_ | refine a_un ?_ | refine b_rU ?_ | refine a_fld ?_ | refine a_sfld ?_ | refine a_meth ?_ | refine a_make ?_
  | refine a_dget ?_ | refine a_din ?_ | refine a_dnin ?_ | refine a_dput ?_ | refine a_yes ?_ | refine a_gsub ?_)
local macro_rules | `(tactic| walk_at "is") => `(tactic| with_reducible first
  | refine a_isi_int_int ?_ | refine a_isi_int_bool ?_ | refine a_isi_int_str ?_ | refine a_isi_int_list ?_ | refine a_isi_int_tuple ?_ | refine a_isi_int_dict ?_
  | refine a_isi_bl_int ?_ | refine a_isi_bl_bool ?_ | refine a_isi_bl_str ?_ | refine a_isi_bl_list ?_ | refine a_isi_bl_tuple ?_ | refine a_isi_bl_dict ?_
  | refine a_isi_str_int ?_ | refine a_isi_str_bool ?_ | refine a_isi_str_str ?_ | refine a_isi_str_list ?_ | refine a_isi_str_tuple ?_ | refine a_isi_str_dict ?_
  | refine a_isi_non_int ?_ | refine a_isi_non_bool ?_ | refine a_isi_non_str ?_ | refine a_isi_non_list ?_ | refine a_isi_non_tuple ?_ | refine a_isi_non_dict ?_)
local macro_rules | `(tactic| walk_at "rd") => `(tactic| repeat (walk_at "rd1"))
local macro_rules | `(tactic| walk_at "hp") => `(tactic| first
  | with_reducible assumption
  | with_reducible exact upd_same
  | (with_reducible refine SqL.of ?_; walk_at "hp")
  | (with_reducible refine SqT.of ?_; walk_at "hp")
  | (with_reducible refine Eq.trans (upd_ne ?_) ?_; rotate_left; focus (walk_at "hp"); walk_at "ne")
  | (with_reducible refine (by with_reducible assumption : Same _ _) _ _ ?_; walk_at "hp"))
local macro_rules | `(tactic| walk_at "ne") => `(tactic| first
  | with_reducible assumption
  | with_reducible exact Ne.symm (by with_reducible assumption)
  | (with_reducible refine ne_of_none ?_ (by with_reducible assumption); walk_at "hp")
  | (with_reducible refine Ne.symm (ne_of_none ?_ (by with_reducible assumption)); walk_at "hp"))
local macro_rules | `(tactic| walk_at "rc") => `(tactic| with_reducible first
  | refine a_s1 ?_ | refine a_s2 ?_ | refine a_s3 ?_ | refine a_s4 ?_ | refine a_s0 ?_ | refine a_m1 ?_ | refine a_m2 ?_ | refine a_m3 ?_ | refine a_m4 ?_)
local macro_rules | `(tactic| walk_at "rx1") => `(tactic| with_reducible first
  | refine a_var rfl ?_ | refine a_c ?_ | refine a_op ?_ | refine a_cons ?_ | refine a_nil ?_ | refine a_cb ?_ | refine a_asg ?_ | refine a_gname ?_ | refine a_ret ?_
  | refine a_if ?_ | refine a_test ?_ | refine a_tB ?_ | refine a_blP ?_ | refine a_and ?_ | refine a_or ?_ | refine a_not ?_ | refine a_andV ?_ | refine a_orV ?_ | refine a_notV ?_ | refine a_ifE ?_
  | refine a_rI0 ?_ | refine a_eqS ?_ | refine a_eqI ?_ | refine a_neS ?_ | refine a_neI ?_ | refine a_call ?_ | refine a_tup ?_ | refine a_lst ?_ | refine a_chain ?_ | refine a_iteT ?_ | refine a_iteF ?_ | refine a_iteNT ?_ | refine a_iteNF ?_
  | refine a_drop ?_ | refine a_next ?_ | refine a_cont ?_ | refine a_break ?_ | refine a_retN ?_ | refine a_ipI ?_ | refine a_aug rfl ?_ | refine a_bm ?_ | refine a_bm0 ?_ | refine b_ord ?_ | refine b_int ?_ | refine b_isN ?_ | refine b_notN ?_ | refine a_un ?_ | refine b_rU ?_ | refine a_fld ?_ | refine a_sfld ?_ | refine a_meth ?_ | refine a_make ?_
  | refine a_dget ?_ | refine a_din ?_ | refine a_dnin ?_ | refine a_dput ?_ | refine a_yes ?_ | refine a_gsub ?_)
local macro_rules | `(tactic| walk_at "rx") => `(tactic| repeat (walk_at "rx1"))
section
variable {P : Program} {w : World} {K : PySem.W.Frag} {mg : Str → Option Value} {base : Heap}
abbrev N_is_row : List Str := ["value"]
abbrev S_is_row : Scope := defScope (top 10)
theorem sc_is_row : FnScope N_is_row ["value"] (defScope (top 10)) := ⟨rfl, rfl, rfl, by decide +kernel, rfl, by decide +kernel, by decide +kernel⟩
/-- what is a list or a tuple, what is flat -/
def f_is_row (K : PySem.W.Frag) (x : V) (H : Hp) (Q : VK) : Prop := (∃ a xs, x = .ref a ∧ (SqL K H a xs ∨ SqT K H a xs) ∧ ∀ H', Same H H' → Q (.bl true) H') ∨ (flatV x = true ∧ ∀ H', Same H H' → Q (.bl false) H')
theorem ty_L {H : Hp} {a : Addr} {xs : List V} (h : SqL K H a xs) : TyX K H (.ref a) (.type "list") := by
  rcases h with (h | ⟨o, h⟩) | ⟨o, its, n, h1, h2, _⟩
  · exact .base (.lst h)
  · exact .base (.frz h)
  · exact .kList h1 h2
theorem ty_T {H : Hp} {a : Addr} {xs : List V} (h : SqT K H a xs) : TyX K H (.ref a) (.type "tuple") := by
  rcases h with (h | ⟨o, h⟩) | ⟨o, its, n, h1, h2, _⟩
  · exact .base (.tup h)
  · exact .fTuple h
  · exact .kTuple h1 h2
theorem paired2 {a b : String} : Paired ClsV [V.ty a, V.ty b] [Value.type a, Value.type b] := .cons (.ty a) (.cons (.ty b) .nil)
theorem kit2 {K : PySem.W.Frag} {m a b : String} {x y : Bool} (h : kitB m a = some x) (h2 : kitB m b = some y) : PySem.W.kitAny K (.type m) [.type a, .type b] = some (x || y) := by
  unfold PySem.W.kitAny
  rw [kit_ty h]
  cases x with
  | true => rfl
  | false =>
    show PySem.W.kitAny K (.type m) [.type b] = _
    unfold PySem.W.kitAny
    rw [kit_ty h2]
    cases y <;> rfl
theorem a_isi2 {x : V} {m a b : String} {u v : Bool} {p : Addr} {H : Hp} {Q : VK} (ty : TyX K H x (.type m)) (hp : H p = some (.tup [.ty a, .ty b])) (e : kitB m a = some u) (e2 : kitB m b = some v) (h : Q (.bl (u || v)) H) : rIsiT K [x, .ref p] H Q :=
  ⟨x, p, _, _, _, _, rfl, hp, paired2, ty, kit2 e e2, h⟩
theorem ok_is_row (M : Md w K mg) : Cal P w K mg base 1 "is_row" ["value"] (s1 (f_is_row K)) := by
  obtain ⟨fd, F⟩ := M.fd_is_row
  refine ⟨⟨_, fd, fn_of_d F sc_is_row s1_len (fun cdv A outer s H vs Q E hr h => ?_), M.gl_is_row, F.kp, F.bindsN fun _ _ _ _ _ _ us hl => match us, hl with | [_], _ => rfl⟩⟩
  have hu := hu_of hr
  have nd := sc_is_row.nd
  obtain ⟨x, rfl, h⟩ := h
  refine ⟨_, (pss_one (ps_ret (pe_callB (call_isiTK (K := K) rfl) rfl M.fr_isinstance (by decide +kernel) (pa_cons (pv 0) (pa_cons (pe_tup (pa_cons (pe_ty (n := "list") rfl M.fr_list (by decide +kernel)) (pa_cons (pe_ty (n := "tuple") rfl M.fr_tuple (by decide +kernel)) pa_nil))) pa_nil))))), ?_⟩
  walk_at "rd"
  refine ⟨by decide, fun p hp => ?_⟩
  walk_at "rd"
  rcases h with ⟨a, xs, rfl, h, q⟩ | ⟨h, q⟩
  · rcases h with h | h
    · exact a_isi2 (m := "list") (u := true) (v := false) (ty_L ((Same.new hp).seq h)) upd_same (by decide +kernel) (by decide +kernel) (q _ (Same.new hp))
    · exact a_isi2 (m := "tuple") (u := false) (v := true) (ty_T (Same.seqT (Same.new hp) h)) upd_same (by decide +kernel) (by decide +kernel) (q _ (Same.new hp))
  · cases x with
    | non => exact a_isi2 (m := "NoneType") (u := false) (v := false) (.base .non) upd_same (by decide +kernel) (by decide +kernel) (q _ (Same.new hp))
    | bl b => exact a_isi2 (m := "bool") (u := false) (v := false) (.base (.bl b)) upd_same (by decide +kernel) (by decide +kernel) (q _ (Same.new hp))
    | int b => exact a_isi2 (m := "int") (u := false) (v := false) (.base (.int b)) upd_same (by decide +kernel) (by decide +kernel) (q _ (Same.new hp))
    | str b => exact a_isi2 (m := "str") (u := false) (v := false) (.base (.str b)) upd_same (by decide +kernel) (by decide +kernel) (q _ (Same.new hp))
    | _ => cases h
abbrev N_is_integer : List Str := ["value", "low", "high"]
abbrev S_is_integer : Scope := defScope (top 11)
theorem sc_is_integer : FnScope N_is_integer ["value", "low", "high"] (defScope (top 11)) := ⟨rfl, rfl, rfl, by decide +kernel, rfl, by decide +kernel, by decide +kernel⟩
def intIn : V → Int → Int → Bool
  | .int i, l, h => decide (l ≤ i) && decide (i ≤ h)
  | _, _, _ => false
def f_is_integer (x l h : V) (H : Hp) (Q : VK) : Prop := ∃ i j, l = .int i ∧ h = .int j ∧ flatV x = true ∧ Q (.bl (intIn x i j)) H
theorem ok_is_integer (M : Md w K mg) : Cal P w K mg base 1 "is_integer" ["value", "low", "high"] (s3 f_is_integer) := by
  obtain ⟨fd, F⟩ := M.fd_is_integer
  refine ⟨⟨_, fd, fn_of_d F sc_is_integer s3_len (fun cdv A outer s H vs Q E hr h => ?_), M.gl_is_integer, F.kp, F.bindsN fun _ _ _ _ _ _ us hl => match us, hl with | [_, _, _], _ => rfl⟩⟩
  have hu := hu_of hr
  have nd := sc_is_integer.nd
  obtain ⟨x, _, _, rfl, i, j, rfl, rfl, h, q⟩ := h
  refine ⟨_, (pss_one (ps_ret (pe_and (pe_callB (call_isiKK (K := K) rfl) rfl M.fr_isinstance (by decide +kernel) (pa_cons (pv 0) (pa_cons (pe_ty (n := "int") rfl M.fr_int (by decide +kernel)) pa_nil))) (pe_and (pe_not (pe_callB (call_isiKK (K := K) rfl) rfl M.fr_isinstance (by decide +kernel) (pa_cons (pv 0) (pa_cons (pe_ty (n := "bool") rfl M.fr_bool (by decide +kernel)) pa_nil)))) (pe_one (pe_chain op_le op_le (pv 1) (pv 0) (pv 2))))))), ?_⟩
  walk_at "rd"
  cases x with
  | non => walk_at "is"; walk_at "rd"; exact q
  | str z => walk_at "is"; walk_at "rd"; exact q
  | bl b => walk_at "is"; walk_at "rd"; walk_at "is"; walk_at "rd"; exact q
  | int n =>
    walk_at "is"; walk_at "rd"; walk_at "is"; walk_at "rd"
    refine a_ite (fun e => ?_) (fun e => ?_)
    · walk_at "rd"
      have e2 : intIn (.int n) i j = decide (n ≤ j) := by show (decide (i ≤ n) && decide (n ≤ j)) = _; rw [decide_eq_true e]; rfl
      rw [e2] at q
      exact q
    · have e2 : intIn (.int n) i j = false := by show (decide (i ≤ n) && decide (n ≤ j)) = _; rw [decide_eq_false e]; rfl
      rw [e2] at q
      exact q
  | _ => cases h
abbrev N_is_name : List Str := ["value", "letter"]
abbrev S_is_name : Scope := defScope (top 12)
theorem sc_is_name : FnScope N_is_name ["value"] (defScope (top 12)) := ⟨rfl, rfl, rfl, by decide +kernel, rfl, by decide +kernel, by decide +kernel⟩
def lowerB (c : Nat) : Bool := decide (97 ≤ c) && decide (c ≤ 122)
def nameB (z : Str) : Bool := decide (1 ≤ z.length) && (decide (z.length ≤ 8) && (z.cps.toList.all lowerB && !inV (.str z) tv_WORDS))
def f_is_name (x : V) (H : Hp) (Q : VK) : Prop := ∃ z, x = .str z ∧ z.length ≤ 100000 ∧ Q (.bl (nameB z)) H
theorem all_false {xs : List Nat} {f : Nat → Bool} {i : Nat} {c : Nat} (h : xs[i]? = some c) (e : f c = false) : xs.all f = false := by
  rw [List.all_eq_false]
  exact ⟨c, List.mem_of_getElem? h, by rw [e]; exact Bool.false_ne_true⟩
theorem all_true {xs : List Nat} {f : Nat → Bool} (h : ∀ (i : Nat) c, i < xs.length → xs[i]? = some c → f c = true) : xs.all f = true := by
  rw [List.all_eq_true]
  intro c hc
  obtain ⟨i, hi, e⟩ := List.mem_iff_getElem.mp hc
  exact h i c hi (by rw [List.getElem?_eq_getElem hi, e])
theorem toList_at {z : Str} {i c : Nat} (h : z.cps[i]? = some c) : z.cps.toList[i]? = some c := by simpa using h
theorem ok_is_name (M : Md w K mg) : Cal P w K mg base 1 "is_name" ["value"] (s1 f_is_name) := by
  obtain ⟨fd, F⟩ := M.fd_is_name
  refine ⟨⟨_, fd, fn_of_d F sc_is_name s1_len (fun cdv A outer s H vs Q E hr h => ?_), M.gl_is_name, F.kp, F.bindsN fun _ _ _ _ _ _ us hl => match us, hl with | [_], _ => rfl⟩⟩
  have hu := hu_of hr
  have nd := sc_is_name.nd
  obtain ⟨_, rfl, z, rfl, hz, q⟩ := h
  refine ⟨_, (pss_cons (ps_if (PW.pt (pw_or (pt_not (pt_val (pe_callB (call_isiKK (K := K) rfl) rfl M.fr_isinstance (by decide +kernel) (pa_cons (pv 0) (pa_cons (pe_ty (n := "str") rfl M.fr_str (by decide +kernel)) pa_nil))))) (pw_or1 (pt_not (pt_chain op_le op_le pe_int (pe_callB call_lenS rfl M.fr_len PySem.boot_len (pa_cons (pv 0) pa_nil)) pe_int))))) (pss_one (ps_ret pe_bl)) pss_nil) (pss_cons (ps_for PassesOwn.never rfl (pi_str (pv 0)) (pg_name (i := 1) nd rfl (Or.inl rfl)) (pss_one (ps_if (pt_not (pt_chain op_le op_le pe_int (pe_callB call_ordN rfl M.fr_ord (by decide +kernel) (pa_cons (pv 1) pa_nil)) pe_int)) (pss_one (ps_ret pe_bl)) pss_nil))) (pss_one (ps_ret (pe_cmpR (op_notInK (K := K) rfl) (pv 0) (pe_globR rfl M.gl_WORDS) (by first | rfl | exact nomark _)))))), ?_⟩
  walk_at "rd"
  walk_at "is"
  walk_at "rd"
  refine b_lenS (sz hz) ?_
  walk_at "rd"
  have bad : nameB z = false → Q (.bl false) H := fun e => by rw [e] at q; exact q
  refine a_ite (fun e1 => ?_) (fun e1 => ?_)
  · walk_at "rd"
    refine a_iteN (fun e2 => ?_) (fun e2 => ?_)
    · walk_at "rd"
      exact bad (by unfold nameB; rw [decide_eq_false (show ¬ z.length ≤ 8 by omega)]; simp)
    · walk_at "rd"
      refine ⟨_, rfl, z, rfl, for_it walk_str (fun i σ H' => H' = H ∧ (∃ v, σ = [some (.str z), v]) ∧ ∀ j c, j < i → z.cps.toList[j]? = some c → lowerB c = true) ⟨rfl, ⟨_, rfl⟩, fun j c hj => absurd hj (Nat.not_lt_zero _)⟩ (fun _ _ _ _ _ => trivial) ?_ ?_⟩
      · rintro i x σ H1 H' hi ⟨rfl, ⟨v, rfl⟩, hp⟩ ⟨rfl, c, hc, rfl⟩
        have hc' := toList_at hc
        have no : lowerB c = false → Q (.bl false) H' := fun e => bad (by unfold nameB; rw [all_false hc' e]; simp)
        walk_at "rd"
        refine a_ite (fun e3 => ?_) (fun e3 => ?_)
        · walk_at "rd"
          refine a_iteN (fun e4 => ?_) (fun e4 => ?_)
          · walk_at "rd"
            exact no (by unfold lowerB; rw [decide_eq_false (show ¬ c ≤ 122 by omega)]; simp)
          · walk_at "rd"
            refine ⟨rfl, ⟨_, rfl⟩, fun j d hj hd => ?_⟩
            rcases Nat.lt_or_eq_of_le (Nat.le_of_lt_succ hj) with h1 | h1
            · exact hp j d h1 hd
            · rw [h1, hc'] at hd
              cases hd
              unfold lowerB
              rw [decide_eq_true (show 97 ≤ c by omega), decide_eq_true (show c ≤ 122 by omega)]
              rfl
        · walk_at "rd"
          exact no (by unfold lowerB; rw [decide_eq_false (show ¬ 97 ≤ c by omega)]; simp)
      · rintro σ H' ⟨rfl, ⟨v, rfl⟩, hp⟩
        walk_at "rd"
        refine a_inT (M.tp_WORDS _) rfl (by decide +kernel) ?_
        have e5 : nameB z = !inV (.str z) tv_WORDS := by
          unfold nameB
          rw [decide_eq_true (show 1 ≤ z.length by omega), decide_eq_true (show z.length ≤ 8 by omega), all_true (xs := z.cps.toList) (f := lowerB) (fun i c hi e => hp i c (by simpa using hi) e)]
          simp
        rw [e5] at q
        exact q
  · walk_at "rd"
    exact bad (by unfold nameB; rw [decide_eq_false (show ¬ 1 ≤ z.length by omega)]; simp)
abbrev N_is_character : List Str := ["value"]
abbrev S_is_character : Scope := defScope (top 13)
theorem sc_is_character : FnScope N_is_character ["value"] (defScope (top 13)) := ⟨rfl, rfl, rfl, by decide +kernel, rfl, by decide +kernel, by decide +kernel⟩
def charB (c : Nat) : Bool := decide (32 ≤ c) && (decide (c ≤ 126) && (!decide (c = 37) && !decide (c = 39)))
def f_is_character (x : V) (H : Hp) (Q : VK) : Prop := ∃ c, x = .str ⟨#[c]⟩ ∧ Q (.bl (charB c)) H
theorem ok_is_character (M : Md w K mg) : Cal P w K mg base 1 "is_character" ["value"] (s1 f_is_character) := by
  obtain ⟨fd, F⟩ := M.fd_is_character
  refine ⟨⟨_, fd, fn_of_d F sc_is_character s1_len (fun cdv A outer s H vs Q E hr h => ?_), M.gl_is_character, F.kp, F.bindsN fun _ _ _ _ _ _ us hl => match us, hl with | [_], _ => rfl⟩⟩
  have hu := hu_of hr
  have nd := sc_is_character.nd
  obtain ⟨_, rfl, c, rfl, q⟩ := h
  have bad : charB c = false → Q (.bl false) H := fun e => by rw [e] at q; exact q
  refine ⟨_, (pss_one (ps_ret (pe_and (pe_chain op_le op_le pe_int (pe_callB call_ordN rfl M.fr_ord (by decide +kernel) (pa_cons (pv 0) pa_nil)) pe_int) (pe_and (pe_cmpR op_ne (pe_callB call_ordN rfl M.fr_ord (by decide +kernel) (pa_cons (pv 0) pa_nil)) pe_int (nomark _)) (pe_one (pe_cmpR op_ne (pe_callB call_ordN rfl M.fr_ord (by decide +kernel) (pa_cons (pv 0) pa_nil)) pe_int (nomark _))))))), ?_⟩
  walk_at "rd"
  refine a_ite (fun e1 => ?_) (fun e1 => ?_)
  · walk_at "rd"
    refine a_ite (fun e2 => ?_) (fun e2 => ?_)
    · walk_at "rd"
      refine a_iteN (fun e3 => ?_) (fun e3 => ?_)
      · walk_at "rd"
        have e : charB c = !decide ((c : Int) = 39) := by
          unfold charB
          rw [decide_eq_true (show 32 ≤ c by omega), decide_eq_true (show c ≤ 126 by omega), decide_eq_false (show ¬ c = 37 by omega)]
          simp
          omega
        rw [e] at q
        exact q
      · exact bad (by unfold charB; rw [decide_eq_true (show c = 37 by omega)]; simp)
    · walk_at "rd"
      exact bad (by unfold charB; rw [decide_eq_false (show ¬ c ≤ 126 by omega)]; simp)
  · walk_at "rd"
    exact bad (by unfold charB; rw [decide_eq_false (show ¬ 32 ≤ c by omega)]; simp)
abbrev N_is_written : List Str := ["value", "character"]
abbrev S_is_written : Scope := defScope (top 14)
theorem sc_is_written : FnScope N_is_written ["value"] (defScope (top 14)) := ⟨rfl, rfl, rfl, by decide +kernel, rfl, by decide +kernel, by decide +kernel⟩
def writtenB : V → Bool
  | .str z => decide (z.length ≤ 20) && z.cps.toList.all charB
  | _ => false
def f_is_written (x : V) (H : Hp) (Q : VK) : Prop := flatV x = true ∧ (∀ z, x = .str z → z.length ≤ 100000) ∧ Q (.bl (writtenB x)) H
theorem ok_is_written (M : Md w K mg) (C_is_character : Cal P w K mg base 1 "is_character" ["value"] (s1 f_is_character)) : Cal P w K mg base 2 "is_written" ["value"] (s1 f_is_written) := by
  obtain ⟨fd, F⟩ := M.fd_is_written
  refine ⟨⟨_, fd, fn_of_d F sc_is_written s1_len (fun cdv A outer s H vs Q E hr h => ?_), M.gl_is_written, F.kp, F.bindsN fun _ _ _ _ _ _ us hl => match us, hl with | [_], _ => rfl⟩⟩
  have hu := hu_of hr
  have nd := sc_is_written.nd
  obtain ⟨x, rfl, hf, hz, q⟩ := h
  refine ⟨_, (pss_cons (ps_if (PW.pt (pw_or (pt_not (pt_val (pe_callB (call_isiKK (K := K) rfl) rfl M.fr_isinstance (by decide +kernel) (pa_cons (pv 0) (pa_cons (pe_ty (n := "str") rfl M.fr_str (by decide +kernel)) pa_nil))))) (pw_or1 (pt_cmpR op_gt (pe_callB call_lenS rfl M.fr_len PySem.boot_len (pa_cons (pv 0) pa_nil)) pe_int (nomark _))))) (pss_one (ps_ret pe_bl)) pss_nil) (pss_cons (ps_for PassesOwn.never rfl (pi_str (pv 0)) (pg_name (i := 1) nd rfl (Or.inl rfl)) (pss_one (ps_if (pt_not (pt_val (pe_cl C_is_character (hr.mono (by first | decide | omega)) rfl (pa_cons (pv 1) pa_nil)))) (pss_one (ps_ret pe_bl)) pss_nil))) (pss_one (ps_ret pe_bl)))), ?_⟩
  walk_at "rd"
  cases x with
  | non => walk_at "is"; walk_at "rd"; exact q
  | bl b => walk_at "is"; walk_at "rd"; exact q
  | int b => walk_at "is"; walk_at "rd"; exact q
  | str z =>
    walk_at "is"; walk_at "rd"
    refine b_lenS (sz (hz z rfl)) ?_
    walk_at "rd"
    refine a_ite (fun e1 => ?_) (fun e1 => ?_)
    · walk_at "rd"
      have e : writtenB (.str z) = false := by show (decide (z.length ≤ 20) && z.cps.toList.all charB) = false; rw [decide_eq_false (show ¬ z.length ≤ 20 by omega)]; simp
      rw [e] at q
      exact q
    · walk_at "rd"
      refine ⟨_, rfl, z, rfl, for_it walk_str (fun i σ H' => H' = H ∧ (∃ v, σ = [some (.str z), v]) ∧ ∀ j c, j < i → z.cps.toList[j]? = some c → charB c = true) ⟨rfl, ⟨_, rfl⟩, fun j c hj => absurd hj (Nat.not_lt_zero _)⟩ (fun _ _ _ _ _ => trivial) ?_ ?_⟩
      · rintro i x σ H1 H' hi ⟨rfl, ⟨v, rfl⟩, hp⟩ ⟨rfl, c, hc, rfl⟩
        have hc' := toList_at hc
        walk_at "rd"
        walk_at "rc"
        refine ⟨c, rfl, ?_⟩
        walk_at "rd"
        refine a_iteBN (fun e3 => ?_) (fun e3 => ?_)
        · walk_at "rd"
          have e : writtenB (.str z) = false := by show (decide (z.length ≤ 20) && z.cps.toList.all charB) = false; rw [all_false hc' e3]; simp
          rw [e] at q
          exact q
        · walk_at "rd"
          refine ⟨rfl, ⟨_, rfl⟩, fun j d hj hd => ?_⟩
          rcases Nat.lt_or_eq_of_le (Nat.le_of_lt_succ hj) with h1 | h1
          · exact hp j d h1 hd
          · rw [h1, hc'] at hd
            cases hd
            exact e3
      · rintro σ H' ⟨rfl, ⟨v, rfl⟩, hp⟩
        walk_at "rd"
        have e : writtenB (.str z) = true := by
          show (decide (z.length ≤ 20) && z.cps.toList.all charB) = true
          rw [decide_eq_true (show z.length ≤ 20 by omega), all_true (xs := z.cps.toList) (f := charB) (fun i c hi e => hp i c (by simpa using hi) e)]
          rfl
        rw [e] at q
        exact q
  | _ => cases hf
abbrev N_is_word : List Str := ["value", "words"]
abbrev S_is_word : Scope := defScope (top 15)
theorem sc_is_word : FnScope N_is_word ["value", "words"] (defScope (top 15)) := ⟨rfl, rfl, rfl, by decide +kernel, rfl, by decide +kernel, by decide +kernel⟩
def wordB : V → List V → Bool
  | .str z, xs => inV (.str z) xs
  | _, _ => false
def f_is_word (K : PySem.W.Frag) (x ws : V) (H : Hp) (Q : VK) : Prop := ∃ p xs, ws = .ref p ∧ SqT K H p xs ∧ xs.all flatV = true ∧ flatV x = true ∧ Q (.bl (wordB x xs)) H
theorem ok_is_word (M : Md w K mg) : Cal P w K mg base 1 "is_word" ["value", "words"] (s2 (f_is_word K)) := by
  obtain ⟨fd, F⟩ := M.fd_is_word
  refine ⟨⟨_, fd, fn_of_d F sc_is_word s2_len (fun cdv A outer s H vs Q E hr h => ?_), M.gl_is_word, F.kp, F.bindsN fun _ _ _ _ _ _ us hl => match us, hl with | [_, _], _ => rfl⟩⟩
  have hu := hu_of hr
  have nd := sc_is_word.nd
  obtain ⟨x, _, rfl, p, xs, rfl, hs, ha, hf, q⟩ := h
  refine ⟨_, (pss_one (ps_ret (pe_and (pe_callB (call_isiKK (K := K) rfl) rfl M.fr_isinstance (by decide +kernel) (pa_cons (pv 0) (pa_cons (pe_ty (n := "str") rfl M.fr_str (by decide +kernel)) pa_nil))) (pe_one (pe_cmpR (op_inK (K := K) rfl) (pv 0) (pv 1) (by first | rfl | exact nomark _)))))), ?_⟩
  walk_at "rd"
  cases x with
  | non => walk_at "is"; walk_at "rd"; exact q
  | bl b => walk_at "is"; walk_at "rd"; exact q
  | int b => walk_at "is"; walk_at "rd"; exact q
  | str z => walk_at "is"; walk_at "rd"; exact a_inT hs rfl ha q
  | _ => cases hf
end

end T51

set_option Elab.async false
set_option linter.all false
set_option maxRecDepth 100000
set_option maxHeartbeats 4000000
namespace T51
open PySem PySem.Spec PyProof.Rows L2
local macro_rules | `(tactic| walk_at "rd1") => `(tactic| with_reducible first
  | refine a_seq ?_ | refine a_var rfl ?_ | refine a_c ?_ | refine a_op ?_ | refine a_cons ?_ | refine a_nil ?_ | refine a_cb ?_ | refine a_asg ?_ | refine a_gname ?_ | refine a_ret ?_
  | refine a_if ?_ | refine a_test ?_ | refine a_tB ?_ | refine a_blP ?_ | refine a_and ?_ | refine a_or ?_ | refine a_not ?_ | refine a_andV ?_ | refine a_orV ?_ | refine a_notV ?_ | refine a_ifE ?_
  | refine a_rI0 ?_ | refine a_eqS ?_ | refine a_eqI ?_ | refine a_neS ?_ | refine a_neI ?_ | refine a_call ?_ | refine a_tup ?_ | refine a_lst ?_ | refine a_chain ?_ | refine a_iteT ?_ | refine a_iteF ?_ | refine a_iteNT ?_ | refine a_iteNF ?_
  | refine a_drop ?_ | refine a_next ?_ | refine a_cont ?_ | refine a_break ?_ | refine a_retN ?_ | refine a_ipI ?_ | refine a_aug rfl ?_ | refine a_bm ?_ | refine a_bm0 ?_ | refine b_ord ?_ | refine b_int ?_ | refine b_isN ?_ | refine b_notN ?_ | refine a_un ?_ | refine b_rU ?_ | refine a_fld ?_ | refine a_sfld ?_ | refine a_meth ?_ | refine a_make ?_
  | refine a_dget ?_ | refine a_din ?_ | refine a_dnin ?_ | refine a_dput ?_ | refine a_yes ?_ | refine a_gsub ?_)
local macro_rules | `(tactic| walk_at "is") => `(tactic| with_reducible first
  | refine a_isi_int_int ?_ | refine a_isi_int_bool ?_ | refine a_isi_int_str ?_ | refine a_isi_int_list ?_ | refine a_isi_int_tuple ?_ | refine a_isi_int_dict ?_
  | refine a_isi_bl_int ?_ | refine a_isi_bl_bool ?_ | refine a_isi_bl_str ?_ | refine a_isi_bl_list ?_ | refine a_isi_bl_tuple ?_ | refine a_isi_bl_dict ?_
  | refine a_isi_str_int ?_ | refine a_isi_str_bool ?_ | refine a_isi_str_str ?_ | refine a_isi_str_list ?_ | refine a_isi_str_tuple ?_ | refine a_isi_str_dict ?_
  | refine a_isi_non_int ?_ | refine a_isi_non_bool ?_ | refine a_isi_non_str ?_ | refine a_isi_non_list ?_ | refine a_isi_non_tuple ?_ | refine a_isi_non_dict ?_)
local macro_rules | `(tactic| walk_at "rd") => `(tactic| repeat (walk_at "rd1"))
local macro_rules | `(tactic| walk_at "hp") => `(tactic| first
  | with_reducible assumption
  | with_reducible exact upd_same
  | (with_reducible refine SqL.of ?_; walk_at "hp")
  | (with_reducible refine SqT.of ?_; walk_at "hp")
  | (with_reducible refine Eq.trans (upd_ne ?_) ?_; rotate_left; focus (walk_at "hp"); walk_at "ne")
  | (with_reducible refine (by with_reducible assumption : Same _ _) _ _ ?_; walk_at "hp"))
local macro_rules | `(tactic| walk_at "ne") => `(tactic| first
  | with_reducible assumption
  | with_reducible exact Ne.symm (by with_reducible assumption)
  | (with_reducible refine ne_of_none ?_ (by with_reducible assumption); walk_at "hp")
  | (with_reducible refine Ne.symm (ne_of_none ?_ (by with_reducible assumption)); walk_at "hp"))
local macro_rules | `(tactic| walk_at "rc") => `(tactic| with_reducible first
  | refine a_s1 ?_ | refine a_s2 ?_ | refine a_s3 ?_ | refine a_s4 ?_ | refine a_s0 ?_ | refine a_m1 ?_ | refine a_m2 ?_ | refine a_m3 ?_ | refine a_m4 ?_)
local macro_rules | `(tactic| walk_at "rx1") => `(tactic| with_reducible first
  | refine a_var rfl ?_ | refine a_c ?_ | refine a_op ?_ | refine a_cons ?_ | refine a_nil ?_ | refine a_cb ?_ | refine a_asg ?_ | refine a_gname ?_ | refine a_ret ?_
  | refine a_if ?_ | refine a_test ?_ | refine a_tB ?_ | refine a_blP ?_ | refine a_and ?_ | refine a_or ?_ | refine a_not ?_ | refine a_andV ?_ | refine a_orV ?_ | refine a_notV ?_ | refine a_ifE ?_
  | refine a_rI0 ?_ | refine a_eqS ?_ | refine a_eqI ?_ | refine a_neS ?_ | refine a_neI ?_ | refine a_call ?_ | refine a_tup ?_ | refine a_lst ?_ | refine a_chain ?_ | refine a_iteT ?_ | refine a_iteF ?_ | refine a_iteNT ?_ | refine a_iteNF ?_
  | refine a_drop ?_ | refine a_next ?_ | refine a_cont ?_ | refine a_break ?_ | refine a_retN ?_ | refine a_ipI ?_ | refine a_aug rfl ?_ | refine a_bm ?_ | refine a_bm0 ?_ | refine b_ord ?_ | refine b_int ?_ | refine b_isN ?_ | refine b_notN ?_ | refine a_un ?_ | refine b_rU ?_ | refine a_fld ?_ | refine a_sfld ?_ | refine a_meth ?_ | refine a_make ?_
  | refine a_dget ?_ | refine a_din ?_ | refine a_dnin ?_ | refine a_dput ?_ | refine a_yes ?_ | refine a_gsub ?_)
local macro_rules | `(tactic| walk_at "rx") => `(tactic| repeat (walk_at "rx1"))
section
variable {P : Program} {w : World} {K : PySem.W.Frag} {mg : Str → Option Value} {base : Heap}
/-! ### instructions -/
structure Ins where
  w : Str
  x : Option V
def insV (r : Ins) : List V := match r.x with
  | none => [.str r.w]
  | some v => [.str r.w, v]
def constB (x : V) : Bool := decide (x = .non) || (intIn x (-999) 999 || writtenB x)
def keyB (kvs : List (Str × He.Dv)) : V → Bool
  | .str z => kvs.any fun q => decide (q.1 = z)
  | _ => false
def nameV : V → Bool
  | .str z => nameB z
  | _ => false
def argOk (w : Str) (v : V) (n : Int) : Bool :=
  if w = "worth" then constB v
  else if inV (.str w) tv_NAMED then nameV v
  else if inV (.str w) tv_PLACED_codes then intIn v 0 (n - 1)
  else if w = "deed" then keyB kvs_DEED_COUNTS v
  else if w = "rows" then keyB kvs_ROW_COUNTS v
  else if w = "list" then intIn v 0 4
  else if w = "call" then intIn v 0 3
  else if w = "tick" then intIn v 1 20
  else false
def okIns (n : Int) (r : Ins) : Bool := match r.x with
  | none => inV (.str r.w) tv_ALONE
  | some v => argOk r.w v n
theorem nameB_len {z : Str} (h : nameB z = true) : z.length ≤ 8 := by
  unfold nameB at h
  simp only [Bool.and_eq_true, decide_eq_true_eq] at h
  exact h.2.1
theorem constB_flat {x : V} (h : constB x = true) : flatV x = true ∧ ∀ z, x = .str z → z.length ≤ 100000 := by
  cases x with
  | non => exact ⟨rfl, fun z e => by cases e⟩
  | bl b => exact ⟨rfl, fun z e => by cases e⟩
  | int b => exact ⟨rfl, fun z e => by cases e⟩
  | str z =>
    refine ⟨rfl, fun z' e => ?_⟩
    cases e
    have h2 : (decide (V.str z = V.non) || (false || (decide (z.length ≤ 20) && z.cps.toList.all charB))) = true := h
    rw [decide_eq_false (by intro e; cases e)] at h2
    simp only [Bool.false_or, Bool.and_eq_true, decide_eq_true_eq] at h2
    omega
  | _ => simp [constB, intIn, writtenB] at h
theorem kd_at {K : PySem.W.Frag} {a : Addr} {kvs : List (Str × He.Dv)} {v : V} (h : He.valsB K a kvs = true) (e : keyB kvs v = true) : ∃ z u, v = .str z ∧ PySem.W.nsIn K a z = some (some u) := by
  cases v with
  | str z =>
    have e2 : (kvs.any fun q => decide (q.1 = z)) = true := e
    obtain ⟨q, hq, e3⟩ := List.any_eq_true.mp e2
    have e4 : q.1 = z := of_decide_eq_true e3
    subst e4
    obtain ⟨u, h1, _⟩ := He.valsB_ok h hq
    exact ⟨_, u, rfl, h1⟩
  | _ => cases e
abbrev N_is_constant : List Str := ["value"]
abbrev S_is_constant : Scope := defScope (top 38)
theorem sc_is_constant : FnScope N_is_constant ["value"] (defScope (top 38)) := ⟨rfl, rfl, rfl, by decide +kernel, rfl, by decide +kernel, by decide +kernel⟩
def f_is_constant (x : V) (H : Hp) (Q : VK) : Prop := flatV x = true ∧ (∀ z, x = .str z → z.length ≤ 100000) ∧ Q (.bl (constB x)) H
theorem ok_is_constant (M : Md w K mg) (C_is_integer : Cal P w K mg base 1 "is_integer" ["value", "low", "high"] (s3 f_is_integer)) (C_is_written : Cal P w K mg base 2 "is_written" ["value"] (s1 f_is_written)) : Cal P w K mg base 3 "is_constant" ["value"] (s1 f_is_constant) := by
  obtain ⟨fd, F⟩ := M.fd_is_constant
  refine ⟨⟨_, fd, fn_of_d F sc_is_constant s1_len (fun cdv A outer s H vs Q E hr h => ?_), M.gl_is_constant, F.kp, F.bindsN fun _ _ _ _ _ _ us hl => match us, hl with | [_], _ => rfl⟩⟩
  have hu := hu_of hr
  have nd := sc_is_constant.nd
  obtain ⟨x, rfl, hf, hz, q⟩ := h
  refine ⟨_, (pss_one (ps_ret (pe_or (pe_cmpR op_isNn (pv 0) pe_non (nomark _)) (pe_or (pe_cl C_is_integer (hr.mono (by first | decide | omega)) rfl (pa_cons (pv 0) (pa_cons (pe_un un_neg pe_int) (pa_cons pe_int pa_nil)))) (pe_one (pe_cl C_is_written (hr.mono (by first | decide | omega)) rfl (pa_cons (pv 0) pa_nil))))))), ?_⟩
  walk_at "rd"
  refine a_ite (fun e1 => ?_) (fun e1 => ?_)
  · unfold constB at q
    rw [decide_eq_true e1] at q
    exact q
  · walk_at "rd"
    walk_at "rc"
    refine ⟨_, _, rfl, rfl, hf, ?_⟩
    walk_at "rd"
    unfold constB at q
    rw [decide_eq_false e1] at q
    refine a_iteB (fun e2 => ?_) (fun e2 => ?_)
    · rw [show intIn x (-999) 999 = true from e2] at q
      exact q
    · walk_at "rd"
      walk_at "rc"
      refine ⟨hf, hz, ?_⟩
      rw [show intIn x (-999) 999 = false from e2] at q
      exact q
abbrev N_is_right_for : List Str := ["word", "value", "length"]
abbrev S_is_right_for : Scope := defScope (top 39)
theorem sc_is_right_for : FnScope N_is_right_for ["word", "value", "length"] (defScope (top 39)) := ⟨rfl, rfl, rfl, by decide +kernel, rfl, by decide +kernel, by decide +kernel⟩
def f_is_right_for (x v l : V) (H : Hp) (Q : VK) : Prop := ∃ w n, x = .str w ∧ l = .int n ∧ argOk w v n = true ∧ Q (.bl true) H
theorem ok_is_right_for (M : Md w K mg) (C_is_constant : Cal P w K mg base 3 "is_constant" ["value"] (s1 f_is_constant)) (C_is_name : Cal P w K mg base 1 "is_name" ["value"] (s1 f_is_name))
    (C_is_integer : Cal P w K mg base 1 "is_integer" ["value", "low", "high"] (s3 f_is_integer)) : Cal P w K mg base 4 "is_right_for" ["word", "value", "length"] (s3 f_is_right_for) := by
  obtain ⟨fd, F⟩ := M.fd_is_right_for
  refine ⟨⟨_, fd, fn_of_d F sc_is_right_for s3_len (fun cdv A outer s H vs Q E hr h => ?_), M.gl_is_right_for, F.kp, F.bindsN fun _ _ _ _ _ _ us hl => match us, hl with | [_, _, _], _ => rfl⟩⟩
  have hu := hu_of hr
  have nd := sc_is_right_for.nd
  obtain ⟨_, v, _, rfl, w', n, rfl, rfl, ha, q⟩ := h
  obtain ⟨es1, n1, kd_DEED_COUNTS⟩ := M.kd_DEED_COUNTS
  obtain ⟨es2, n2, kd_ROW_COUNTS⟩ := M.kd_ROW_COUNTS
  have inn : ∀ l h, intIn v l h = true → flatV v = true := fun l h e => by cases v <;> first | rfl | cases e
  refine ⟨_, (pss_cons (ps_if (pt_cmpR op_eq (pv 0) pe_str (nomark _)) (pss_one (ps_ret (pe_cl C_is_constant (hr.mono (by first | decide | omega)) rfl (pa_cons (pv 1) pa_nil)))) pss_nil) (pss_cons (ps_if (pt_cmpR (op_inK (K := K) rfl) (pv 0) (pe_globR rfl M.gl_NAMED) (by first | rfl | exact nomark _)) (pss_one (ps_ret (pe_cl C_is_name (hr.mono (by first | decide | omega)) rfl (pa_cons (pv 1) pa_nil)))) pss_nil) (pss_cons (ps_if (pt_cmpR (op_inK (K := K) rfl) (pv 0) (pe_globR rfl M.gl_PLACED_codes) (by first | rfl | exact nomark _)) (pss_one (ps_ret (pe_cl C_is_integer (hr.mono (by first | decide | omega)) rfl (pa_cons (pv 1) (pa_cons pe_int (pa_cons (pe_op op_sub (pv 2) pe_int) pa_nil)))))) pss_nil) (pss_cons (ps_if (pt_cmpR op_eq (pv 0) pe_str (nomark _)) (pss_one (ps_ret (pe_and (pe_callB (call_isiKK (K := K) rfl) rfl M.fr_isinstance (by decide +kernel) (pa_cons (pv 1) (pa_cons (pe_ty (n := "str") rfl M.fr_str (by decide +kernel)) pa_nil))) (pe_one (pe_cmpR (op_inKdK rfl rfl kd_DEED_COUNTS) (pv 1) (pe_globR rfl M.gl_DEED_COUNTS) (by first | rfl | exact nomark _)))))) pss_nil) (pss_cons (ps_if (pt_cmpR op_eq (pv 0) pe_str (nomark _)) (pss_one (ps_ret (pe_and (pe_callB (call_isiKK (K := K) rfl) rfl M.fr_isinstance (by decide +kernel) (pa_cons (pv 1) (pa_cons (pe_ty (n := "str") rfl M.fr_str (by decide +kernel)) pa_nil))) (pe_one (pe_cmpR (op_inKdK rfl rfl kd_ROW_COUNTS) (pv 1) (pe_globR rfl M.gl_ROW_COUNTS) (by first | rfl | exact nomark _)))))) pss_nil) (pss_cons (ps_if (pt_cmpR op_eq (pv 0) pe_str (nomark _)) (pss_one (ps_ret (pe_cl C_is_integer (hr.mono (by first | decide | omega)) rfl (pa_cons (pv 1) (pa_cons pe_int (pa_cons pe_int pa_nil)))))) pss_nil) (pss_cons (ps_if (pt_cmpR op_eq (pv 0) pe_str (nomark _)) (pss_one (ps_ret (pe_cl C_is_integer (hr.mono (by first | decide | omega)) rfl (pa_cons (pv 1) (pa_cons pe_int (pa_cons pe_int pa_nil)))))) pss_nil) (pss_cons (ps_if (pt_cmpR op_eq (pv 0) pe_str (nomark _)) (pss_one (ps_ret (pe_cl C_is_integer (hr.mono (by first | decide | omega)) rfl (pa_cons (pv 1) (pa_cons pe_int (pa_cons (pe_globI rfl M.in_MOST_TICKS) pa_nil)))))) pss_nil) (pss_one (ps_ret pe_bl)))))))))), ?_⟩
  unfold argOk at ha
  walk_at "rd"
  refine a_ite (fun e1 => ?_) (fun e1 => ?_)
  · rw [if_pos e1] at ha
    walk_at "rd"; walk_at "rc"
    refine ⟨(constB_flat ha).1, (constB_flat ha).2, ?_⟩
    rw [ha]
    exact q
  rw [if_neg e1] at ha
  walk_at "rd"
  refine a_inT (M.tp_NAMED _) rfl (by decide +kernel) ?_
  walk_at "rd"
  refine a_iteB (fun e2 => ?_) (fun e2 => ?_)
  · rw [if_pos (show inV (.str w') tv_NAMED = true from e2)] at ha
    walk_at "rd"; walk_at "rc"
    cases v with
    | str z =>
      have ha' : nameB z = true := ha
      refine ⟨z, rfl, Nat.le_trans (nameB_len ha') (by decide), ?_⟩
      rw [ha']
      exact q
    | _ => cases ha
  rw [if_neg (show ¬ inV (.str w') tv_NAMED = true by rw [show inV (.str w') tv_NAMED = false from e2]; exact Bool.false_ne_true)] at ha
  walk_at "rd"
  refine a_inT (M.tp_PLACED_codes _) rfl (by decide +kernel) ?_
  walk_at "rd"
  refine a_iteB (fun e3 => ?_) (fun e3 => ?_)
  · rw [if_pos (show inV (.str w') tv_PLACED_codes = true from e3)] at ha
    walk_at "rd"; walk_at "rc"
    refine ⟨_, _, rfl, rfl, inn _ _ ha, ?_⟩
    rw [ha]
    exact q
  rw [if_neg (show ¬ inV (.str w') tv_PLACED_codes = true by rw [show inV (.str w') tv_PLACED_codes = false from e3]; exact Bool.false_ne_true)] at ha
  walk_at "rd"
  refine a_ite (fun e4 => ?_) (fun e4 => ?_)
  · rw [if_pos e4] at ha
    obtain ⟨z, u, rfl, hk⟩ := kd_at M.kv_DEED_COUNTS ha
    walk_at "rd"; walk_at "is"; walk_at "rd"
    exact b_inKd hk q
  rw [if_neg e4] at ha
  walk_at "rd"
  refine a_ite (fun e5 => ?_) (fun e5 => ?_)
  · rw [if_pos e5] at ha
    obtain ⟨z, u, rfl, hk⟩ := kd_at M.kv_ROW_COUNTS ha
    walk_at "rd"; walk_at "is"; walk_at "rd"
    exact b_inKd hk q
  rw [if_neg e5] at ha
  walk_at "rd"
  refine a_ite (fun e6 => ?_) (fun e6 => ?_)
  · rw [if_pos e6] at ha
    walk_at "rd"; walk_at "rc"
    refine ⟨_, _, rfl, rfl, inn _ _ ha, ?_⟩
    rw [ha]
    exact q
  rw [if_neg e6] at ha
  walk_at "rd"
  refine a_ite (fun e7 => ?_) (fun e7 => ?_)
  · rw [if_pos e7] at ha
    walk_at "rd"; walk_at "rc"
    refine ⟨_, _, rfl, rfl, inn _ _ ha, ?_⟩
    rw [ha]
    exact q
  rw [if_neg e7] at ha
  walk_at "rd"
  refine a_ite (fun e8 => ?_) (fun e8 => ?_)
  · rw [if_pos e8] at ha
    walk_at "rd"; walk_at "rc"
    refine ⟨_, _, rfl, rfl, inn _ _ ha, ?_⟩
    rw [ha]
    exact q
  rw [if_neg e8] at ha
  cases ha
abbrev N_is_instruction : List Str := ["value", "length"]
abbrev S_is_instruction : Scope := defScope (top 40)
theorem sc_is_instruction : FnScope N_is_instruction ["value", "length"] (defScope (top 40)) := ⟨rfl, rfl, rfl, by decide +kernel, rfl, by decide +kernel, by decide +kernel⟩
def f_is_instruction (K : PySem.W.Frag) (x l : V) (H : Hp) (Q : VK) : Prop := ∃ a r n, x = .ref a ∧ SqT K H a (insV r) ∧ l = .int n ∧ okIns n r = true ∧ ∀ H', Same H H' → Q (.bl true) H'
theorem ok_is_instruction (M : Md w K mg) (C_is_row : Cal P w K mg base 1 "is_row" ["value"] (s1 (f_is_row K))) (C_is_word : Cal P w K mg base 1 "is_word" ["value", "words"] (s2 (f_is_word K)))
    (C_is_right_for : Cal P w K mg base 4 "is_right_for" ["word", "value", "length"] (s3 f_is_right_for)) : Cal P w K mg base 5 "is_instruction" ["value", "length"] (s2 (f_is_instruction K)) := by
  obtain ⟨fd, F⟩ := M.fd_is_instruction
  refine ⟨⟨_, fd, fn_of_d F sc_is_instruction s2_len (fun cdv A outer s H vs Q E hr h => ?_), M.gl_is_instruction, F.kp, F.bindsN fun _ _ _ _ _ _ us hl => match us, hl with | [_, _], _ => rfl⟩⟩
  have hu := hu_of hr
  have nd := sc_is_instruction.nd
  obtain ⟨_, _, rfl, a, ⟨w', x⟩, n, rfl, hs, rfl, ho, q⟩ := h
  refine ⟨_, (pss_cons (ps_if (PW.pt (pw_or (pt_not (pt_val (pe_cl C_is_row (hr.mono (by first | decide | omega)) rfl (pa_cons (pv 0) pa_nil)))) (pw_or1 (pt_not (pt_chain op_le op_le pe_int (pe_callB (call_lenK (K := K) rfl) rfl M.fr_len PySem.boot_len (pa_cons (pv 0) pa_nil)) pe_int))))) (pss_one (ps_ret pe_bl)) pss_nil) (pss_cons (ps_if (pt_cmpR op_eq (pe_callB (call_lenK (K := K) rfl) rfl M.fr_len PySem.boot_len (pa_cons (pv 0) pa_nil)) pe_int (nomark _)) (pss_one (ps_ret (pe_cl C_is_word (hr.mono (by first | decide | omega)) rfl (pa_cons (pe_ix (ix_tupK (K := K) rfl) (pv 0) pe_int (fun _ _ => rfl)) (pa_cons (pe_globR rfl M.gl_ALONE) pa_nil))))) pss_nil) (pss_one (ps_ret (pe_and (pe_callB (call_isiKK (K := K) rfl) rfl M.fr_isinstance (by decide +kernel) (pa_cons (pe_ix (ix_tupK (K := K) rfl) (pv 0) pe_int (fun _ _ => rfl)) (pa_cons (pe_ty (n := "str") rfl M.fr_str (by decide +kernel)) pa_nil))) (pe_one (pe_cl C_is_right_for (hr.mono (by first | decide | omega)) rfl (pa_cons (pe_ix (ix_tupK (K := K) rfl) (pv 0) pe_int (fun _ _ => rfl)) (pa_cons (pe_ix (ix_tupK (K := K) rfl) (pv 0) pe_int (fun _ _ => rfl)) (pa_cons (pv 1) pa_nil)))))))))), ?_⟩
  walk_at "rd"; walk_at "rc"
  refine .inl ⟨a, _, rfl, .inr hs, fun H1 g1 => ?_⟩
  walk_at "rd"
  have hs1 := Same.seqT g1 hs
  refine b_lenT hs1 ?_
  walk_at "rd"
  cases x with
  | none =>
    have hl : ((insV ⟨w', none⟩).length : Int) = 1 := rfl
    refine a_ite (fun e1 => ?_) (fun e1 => absurd hl (by omega))
    walk_at "rd"
    refine a_iteN (fun e2 => absurd hl (by omega)) (fun e2 => ?_)
    walk_at "rd"
    refine b_lenT hs1 ?_
    walk_at "rd"
    refine a_ite (fun e2 => ?_) (fun e2 => absurd hl e2)
    walk_at "rd"
    refine a_ixT hs1 rfl ?_
    walk_at "rd"; walk_at "rc"
    refine ⟨_, _, rfl, M.tp_ALONE _, by decide +kernel, rfl, ?_⟩
    rw [show wordB (.str w') tv_ALONE = true from ho]
    exact q _ g1
  | some v =>
    have hl : ((insV ⟨w', some v⟩).length : Int) = 2 := rfl
    refine a_ite (fun e1 => ?_) (fun e1 => absurd hl (by omega))
    walk_at "rd"
    refine a_iteN (fun e2 => absurd hl (by omega)) (fun e2 => ?_)
    walk_at "rd"
    refine b_lenT hs1 ?_
    walk_at "rd"
    refine a_ite (fun e2 => absurd hl (by omega)) (fun e2 => ?_)
    walk_at "rd"
    refine a_ixT hs1 rfl ?_
    walk_at "rd"; walk_at "is"; walk_at "rd"
    refine a_ixT hs1 rfl ?_
    walk_at "rd"
    refine a_ixT hs1 rfl ?_
    walk_at "rd"; walk_at "rc"
    exact ⟨w', n, rfl, rfl, ho, q _ g1⟩
end

end T51

set_option Elab.async false
set_option linter.all false
set_option maxRecDepth 100000
set_option maxHeartbeats 4000000
namespace T51
open PySem PySem.Spec PyProof.Rows L2
local macro_rules | `(tactic| walk_at "rd1") => `(tactic| with_reducible first
  | refine a_seq ?_ | refine a_var rfl ?_ | refine a_c ?_ | refine a_op ?_ | refine a_cons ?_ | refine a_nil ?_ | refine a_cb ?_ | refine a_asg ?_ | refine a_gname ?_ | refine a_ret ?_
  | refine a_if ?_ | refine a_test ?_ | refine a_tB ?_ | refine a_blP ?_ | refine a_and ?_ | refine a_or ?_ | refine a_not ?_ | refine a_andV ?_ | refine a_orV ?_ | refine a_notV ?_ | refine a_ifE ?_
  | refine a_rI0 ?_ | refine a_eqS ?_ | refine a_eqI ?_ | refine a_neS ?_ | refine a_neI ?_ | refine a_call ?_ | refine a_tup ?_ | refine a_lst ?_ | refine a_chain ?_ | refine a_iteT ?_ | refine a_iteF ?_ | refine a_iteNT ?_ | refine a_iteNF ?_
  | refine a_drop ?_ | refine a_next ?_ | refine a_cont ?_ | refine a_break ?_ | refine a_retN ?_ | refine a_ipI ?_ | refine a_aug rfl ?_ | refine a_bm ?_ | refine a_bm0 ?_ | refine b_ord ?_ | refine b_int ?_ | refine b_isN ?_ | refine b_notN ?_ | refine a_un ?_ | refine b_rU ?_ | refine a_fld ?_ | refine a_sfld ?_ | refine a_meth ?_ | refine a_make ?_
  | refine a_dget ?_ | refine a_din ?_ | refine a_dnin ?_ | refine a_dput ?_ | refine a_yes ?_ | refine a_gsub ?_)
local macro_rules | `(tactic| walk_at "is") => `(tactic| with_reducible first
  | refine a_isi_int_int ?_ | refine a_isi_int_bool ?_ | refine a_isi_int_str ?_ | refine a_isi_int_list ?_ | refine a_isi_int_tuple ?_ | refine a_isi_int_dict ?_
  | refine a_isi_bl_int ?_ | refine a_isi_bl_bool ?_ | refine a_isi_bl_str ?_ | refine a_isi_bl_list ?_ | refine a_isi_bl_tuple ?_ | refine a_isi_bl_dict ?_
  | refine a_isi_str_int ?_ | refine a_isi_str_bool ?_ | refine a_isi_str_str ?_ | refine a_isi_str_list ?_ | refine a_isi_str_tuple ?_ | refine a_isi_str_dict ?_
  | refine a_isi_non_int ?_ | refine a_isi_non_bool ?_ | refine a_isi_non_str ?_ | refine a_isi_non_list ?_ | refine a_isi_non_tuple ?_ | refine a_isi_non_dict ?_)
local macro_rules | `(tactic| walk_at "rd") => `(tactic| repeat (walk_at "rd1"))
local macro_rules | `(tactic| walk_at "hp") => `(tactic| first
  | with_reducible assumption
  | with_reducible exact upd_same
  | (with_reducible refine SqL.of ?_; walk_at "hp")
  | (with_reducible refine SqT.of ?_; walk_at "hp")
  | (with_reducible refine Eq.trans (upd_ne ?_) ?_; rotate_left; focus (walk_at "hp"); walk_at "ne")
  | (with_reducible refine (by with_reducible assumption : Same _ _) _ _ ?_; walk_at "hp"))
local macro_rules | `(tactic| walk_at "ne") => `(tactic| first
  | with_reducible assumption
  | with_reducible exact Ne.symm (by with_reducible assumption)
  | (with_reducible refine ne_of_none ?_ (by with_reducible assumption); walk_at "hp")
  | (with_reducible refine Ne.symm (ne_of_none ?_ (by with_reducible assumption)); walk_at "hp"))
local macro_rules | `(tactic| walk_at "rc") => `(tactic| with_reducible first
  | refine a_s1 ?_ | refine a_s2 ?_ | refine a_s3 ?_ | refine a_s4 ?_ | refine a_s0 ?_ | refine a_m1 ?_ | refine a_m2 ?_ | refine a_m3 ?_ | refine a_m4 ?_)
local macro_rules | `(tactic| walk_at "rx1") => `(tactic| with_reducible first
  | refine a_var rfl ?_ | refine a_c ?_ | refine a_op ?_ | refine a_cons ?_ | refine a_nil ?_ | refine a_cb ?_ | refine a_asg ?_ | refine a_gname ?_ | refine a_ret ?_
  | refine a_if ?_ | refine a_test ?_ | refine a_tB ?_ | refine a_blP ?_ | refine a_and ?_ | refine a_or ?_ | refine a_not ?_ | refine a_andV ?_ | refine a_orV ?_ | refine a_notV ?_ | refine a_ifE ?_
  | refine a_rI0 ?_ | refine a_eqS ?_ | refine a_eqI ?_ | refine a_neS ?_ | refine a_neI ?_ | refine a_call ?_ | refine a_tup ?_ | refine a_lst ?_ | refine a_chain ?_ | refine a_iteT ?_ | refine a_iteF ?_ | refine a_iteNT ?_ | refine a_iteNF ?_
  | refine a_drop ?_ | refine a_next ?_ | refine a_cont ?_ | refine a_break ?_ | refine a_retN ?_ | refine a_ipI ?_ | refine a_aug rfl ?_ | refine a_bm ?_ | refine a_bm0 ?_ | refine b_ord ?_ | refine b_int ?_ | refine b_isN ?_ | refine b_notN ?_ | refine a_un ?_ | refine b_rU ?_ | refine a_fld ?_ | refine a_sfld ?_ | refine a_meth ?_ | refine a_make ?_
  | refine a_dget ?_ | refine a_din ?_ | refine a_dnin ?_ | refine a_dput ?_ | refine a_yes ?_ | refine a_gsub ?_)
local macro_rules | `(tactic| walk_at "rx") => `(tactic| repeat (walk_at "rx1"))
section
variable {P : Program} {w : World} {K : PySem.W.Frag} {mg : Str → Option Value} {base : Heap}
abbrev N_are_entries : List Str := ["value", "names", "length", "name"]
abbrev S_are_entries : Scope := defScope (top 41)
theorem sc_are_entries : FnScope N_are_entries ["value", "names", "length"] (defScope (top 41)) := ⟨rfl, rfl, rfl, by decide +kernel, rfl, by decide +kernel, by decide +kernel⟩
def f_are_entries (K : PySem.W.Frag) (d l n : V) (H : Hp) (Q : VK) : Prop := ∃ da kvs la zs m, d = .ref da ∧ H da = some (.dK kvs) ∧ l = .ref la ∧ SqL K H la (List.map V.str zs) ∧ n = .int m ∧ kvs.length = zs.length ∧
  (∀ z ∈ zs, ∃ i, valV kvs (Sum.inr z : Key) = some (.int i) ∧ 0 ≤ i ∧ i < m) ∧ Q (.bl true) H
theorem ok_are_entries (M : Md w K mg) (C_is_integer : Cal P w K mg base 1 "is_integer" ["value", "low", "high"] (s3 f_is_integer)) : Cal P w K mg base 2 "are_entries" ["value", "names", "length"] (s3 (f_are_entries K)) := by
  obtain ⟨fd, F⟩ := M.fd_are_entries
  refine ⟨⟨_, fd, fn_of_d F sc_are_entries s3_len (fun cdv A outer s H vs Q E hr h => ?_), M.gl_are_entries, F.kp, F.bindsN fun _ _ _ _ _ _ us hl => match us, hl with | [_, _, _], _ => rfl⟩⟩
  have hu := hu_of hr
  have nd := sc_are_entries.nd
  obtain ⟨_, _, _, rfl, da, kvs, la, zs, m, rfl, hd, rfl, hl, rfl, hn, hz, q⟩ := h
  refine ⟨_, (pss_cons (ps_if (PW.pt (pw_or (pt_not (pt_val (pe_callB (call_isiKK (K := K) rfl) rfl M.fr_isinstance (by decide +kernel) (pa_cons (pv 0) (pa_cons (pe_ty (n := "dict") rfl M.fr_dict (by decide +kernel)) pa_nil))))) (pw_or1 (pt_cmpR op_ne (pe_callB call_lenDK rfl M.fr_len PySem.boot_len (pa_cons (pv 0) pa_nil)) (pe_callB (call_lenK (K := K) rfl) rfl M.fr_len PySem.boot_len (pa_cons (pv 1) pa_nil)) (nomark _))))) (pss_one (ps_ret pe_bl)) pss_nil) (pss_cons (ps_for PassesOwn.never rfl (pi_list (pv 1)) (pg_name (i := 3) nd rfl (Or.inl rfl)) (pss_one (ps_if (PW.pt (pw_or (pt_cmp (pc_dnotin hu (pv 3) (pv 0))) (pw_or1 (pt_not (pt_val (pe_cl C_is_integer (hr.mono (by first | decide | omega)) rfl (pa_cons (pe_dget hu (pv 0) (pv 3) (fun _ _ => rfl)) (pa_cons pe_int (pa_cons (pe_op op_sub (pv 2) pe_int) pa_nil))))))))) (pss_one (ps_ret pe_bl)) pss_nil))) (pss_one (ps_ret pe_bl)))), ?_⟩
  walk_at "rd"
  refine a_isi_dK_dict hd ?_
  walk_at "rd"
  refine b_lenD hd ?_
  walk_at "rd"
  refine b_lenL hl ?_
  walk_at "rd"
  rw [List.length_map, hn]
  refine a_iteN (fun e => absurd rfl e) (fun _ => ?_)
  walk_at "rd"
  refine ⟨_, rfl, la, rfl, ⟨_, hl⟩, for_list (xs := List.map V.str zs) (fun i σ H' => H' = H ∧ ∃ v, σ = [some (.ref da), some (.ref la), some (.int m), v]) ⟨rfl, _, rfl⟩ (fun i σ H' _ h => by rw [h.1]; exact hl) ?_ ?_⟩
  · rintro i x σ H' hx ⟨rfl, v, rfl⟩
    rw [List.getElem?_map] at hx
    obtain ⟨z, hz1, rfl⟩ := Option.map_eq_some_iff.mp hx
    obtain ⟨k, hk, h0, h1⟩ := hz z (List.mem_of_getElem? hz1)
    walk_at "rd"
    refine b_niS1 hd hk ?_
    walk_at "rd"
    refine b_dgetS hd hk ?_
    walk_at "rd"; walk_at "rc"
    refine ⟨_, _, rfl, rfl, rfl, ?_⟩
    rw [show intIn (.int k) 0 (m - 1) = true by show (decide (0 ≤ k) && decide (k ≤ m - 1)) = true; rw [decide_eq_true h0, decide_eq_true (show k ≤ m - 1 by omega)]; rfl]
    walk_at "rd"
    exact ⟨rfl, _, rfl⟩
  · rintro σ H' ⟨rfl, v, rfl⟩
    walk_at "rd"
    exact q
abbrev N_frozen : List Str := ["value", "item"]
abbrev S_frozen : Scope := defScope (top 19)
theorem sc_frozen : FnScope N_frozen ["value"] (defScope (top 19)) := ⟨rfl, rfl, rfl, by decide +kernel, rfl, by decide +kernel, by decide +kernel⟩
theorem tupAll_map {n : Nat} (ds : List PyData) (i : Nat) (hall : ∀ e ∈ ds, DepLe n e) : tupOnlyAll ((ds.take i).map frz) = true := by
  have all : ∀ l : List PyData, (∀ e ∈ l, DepLe n e) → tupOnlyAll (l.map frz) = true := by
    intro l
    induction l with
    | nil => intro _; unfold List.map tupOnlyAll; rfl
    | cons d l ih =>
      intro ha
      rw [List.map_cons]
      unfold tupOnlyAll
      rw [frz_tup n d (ha d (List.mem_cons_self ..)), ih fun e he => ha e (List.mem_cons_of_mem _ he)]
      rfl
  exact all _ fun e he => hall e (List.mem_of_mem_take he)
def f_frozen (n : Nat) (K : PySem.W.Frag) (x : V) (H : Hp) (Q : VK) : Prop := ∃ d m, n = m + 1 ∧ Dp K H x d ∧ DepLe m d ∧ ∀ v H', Same H H' → Dp K H' v (frz d) → Q v H'
theorem ok_frozen1 (M : Md w K mg) (C_is_row : Cal P w K mg base 1 "is_row" ["value"] (s1 (f_is_row K))) {n : Nat} (C_frozen : Cal P w K mg base (n + 1) "frozen" ["value"] (s1 (f_frozen n K))) :
    Cal P w K mg base (n + 2) "frozen" ["value"] (s1 (f_frozen (n + 1) K)) := by
  obtain ⟨fd, F⟩ := M.fd_frozen
  refine ⟨⟨_, fd, fn_of_d F sc_frozen s1_len (fun cdv A outer s H vs Q E hr h => ?_), M.gl_frozen, F.kp, F.bindsN fun _ _ _ _ _ _ us hl => match us, hl with | [_], _ => rfl⟩⟩
  have hu := hu_of hr
  have nd := sc_frozen.nd
  obtain ⟨x, rfl, d, m, hnm, hd, hdep, q⟩ := h
  obtain rfl : n = m := by omega
  have hr1 : Room 1 _ := hr.mono (by omega)
  refine ⟨_, (pss_cons (ps_if (pt_val (pe_cl C_is_row (hr.mono (by first | decide | omega)) rfl (pa_cons (pv 0) pa_nil))) (pss_one (ps_ret (pe_callTy (call_tupleK (K := K) rfl) rfl M.fr_tuple (by decide +kernel) (pa_cons (pe_lc (own := [("item", 1)]) (g := gName 1) (tt := tYes) rfl nd (pi_or (pi_list (pv 0)) (pi_tup (pv 0))) (blkOk_by (own := [("item", 1)]) (N := N_frozen) (sc := S_frozen) (by decide +kernel)) (fun _ _ _ _ _ => (pg_name (i := 1) nd rfl (Or.inl rfl))) (fun _ _ _ _ _ => pts_nil) (fun _ _ _ _ _ => (pe_cl C_frozen (hr.mono (by first | decide | omega)) rfl (pa_cons (pv 1) pa_nil)))) pa_nil)))) pss_nil) (pss_one (ps_ret (pv 0)))), ?_⟩
  walk_at "rd"; walk_at "rc"
  have at1 : atomD d = true → ∀ Q' : VK, (∀ H1, Same H H1 → Q' (.bl false) H1) → f_is_row K x H Q' := fun ha Q' k => .inr ⟨Dp_flat hd ha, k⟩
  have at2 : atomD d = true → ∀ H1, Same H H1 → Q x H1 := fun ha H1 g1 => q _ _ g1 (by rw [frz_atom ha]; exact Dp_flat_mono hd ha)
  cases n with
  | zero =>
    refine at1 hdep _ fun H1 g1 => ?_
    walk_at "rd"
    exact at2 hdep H1 g1
  | succ n =>
    rcases hdep with ha | ⟨ds, hds, hd1000, hall⟩
    · refine at1 ha _ fun H1 g1 => ?_
      walk_at "rd"
      exact at2 ha H1 g1
    · obtain ⟨a, xs, rfl, hs, hxs⟩ : ∃ a xs, x = .ref a ∧ (SqL K H a xs ∨ SqT K H a xs) ∧ DpAll K H xs ds := by
        rcases hds with rfl | rfl
        · cases hd with
          | lst h1 h2 => exact ⟨_, _, rfl, .inl h1, h2⟩
        · cases hd with
          | tup h1 h2 => exact ⟨_, _, rfl, .inr h1, h2⟩
      have hfr : frz d = .tuple (frzAll ds) := by
        rcases hds with rfl | rfl <;> (unfold frz; rfl)
      refine .inl ⟨a, xs, rfl, hs, fun H1 g1 => ?_⟩
      walk_at "rd"
      have hlen := DpAll_len hxs
      have hsz : xs.length < sizeLine := by rw [hlen]; exact small1000 hd1000
      rcases hs with hs | hs
      · refine Or.inl ⟨_, rfl, a, rfl, ⟨_, g1.seq hs⟩, fun D hD => lc_it (walk_list (xs := xs)) (fun i H2 => Same H H2 ∧ ∃ acc, H2 D = some (.lst acc) ∧ acc.length = i ∧ DpAll K H2 acc ((ds.take i).map frz)) ?_ ?_ ?_ ?_⟩
        · exact ⟨Same.more g1 hD, [], upd_same, rfl, .nil⟩
        · rintro i H2 hi ⟨g2, _⟩
          exact g2.seq hs
        · rintro i x H2 H2' hi ⟨g2, acc, hacc, hla, hda⟩ ⟨rfl, hx⟩
          obtain ⟨e, he, hxe⟩ := DpAll_at hxs hx
          have hde := hall e (List.mem_of_getElem? he)
          walk_at "rd"
          refine ⟨rfl, ?_⟩
          walk_at "rd"; walk_at "rc"
          refine ⟨e, n, rfl, Dp_mono g2 e _ hxe, hde, fun v H3 g3 hv => ?_⟩
          refine ⟨acc, g3 _ _ hacc, Nat.lt_of_le_of_lt (by omega) hsz, ?_⟩
          have t3 : SameT H2' (upd H3 D (.lst (acc ++ [v]))) := (SameT.of g3).trans (SameT.lst (g3 _ _ hacc))
          refine ⟨Same.mut (g2.trans g3) (Same.free g1 hD), acc ++ [v], upd_same, by rw [List.length_append, hla]; rfl, ?_⟩
          rw [take_succ_at he, List.map_append]
          refine DpAll_app (DpAll_tup t3 _ _ (tupAll_map ds i hall) hda) (.cons (Dp_tup (SameT.lst (g3 _ _ hacc)) _ _ (frz_tup n e hde) hv) .nil)
        · rintro H2 ⟨g2, acc, hacc, hla, hda⟩
          rw [hlen, List.take_length] at hda
          walk_at "rd"
          refine b_tupL (SqL.of hacc) fun p hp => ?_
          refine q _ _ (Same.more g2 hp) ?_
          rw [hfr, frzAll_map]
          exact .tup (SqT.of upd_same) (DpAll_tup (SameT.new hp) _ _ (by have := tupAll_map ds ds.length hall; rwa [List.take_length] at this) hda)
      · refine Or.inr ⟨_, rfl, a, rfl, ⟨_, Same.seqT g1 hs⟩, fun D hD => lc_it (walk_tup (xs := xs)) (fun i H2 => Same H H2 ∧ ∃ acc, H2 D = some (.lst acc) ∧ acc.length = i ∧ DpAll K H2 acc ((ds.take i).map frz)) ?_ ?_ ?_ ?_⟩
        · exact ⟨Same.more g1 hD, [], upd_same, rfl, .nil⟩
        · rintro i H2 hi ⟨g2, _⟩
          exact Same.seqT g2 hs
        · rintro i x H2 H2' hi ⟨g2, acc, hacc, hla, hda⟩ ⟨rfl, hx⟩
          obtain ⟨e, he, hxe⟩ := DpAll_at hxs hx
          have hde := hall e (List.mem_of_getElem? he)
          walk_at "rd"
          refine ⟨rfl, ?_⟩
          walk_at "rd"; walk_at "rc"
          refine ⟨e, n, rfl, Dp_mono g2 e _ hxe, hde, fun v H3 g3 hv => ?_⟩
          refine ⟨acc, g3 _ _ hacc, Nat.lt_of_le_of_lt (by omega) hsz, ?_⟩
          have t3 : SameT H2' (upd H3 D (.lst (acc ++ [v]))) := (SameT.of g3).trans (SameT.lst (g3 _ _ hacc))
          refine ⟨Same.mut (g2.trans g3) (Same.free g1 hD), acc ++ [v], upd_same, by rw [List.length_append, hla]; rfl, ?_⟩
          rw [take_succ_at he, List.map_append]
          refine DpAll_app (DpAll_tup t3 _ _ (tupAll_map ds i hall) hda) (.cons (Dp_tup (SameT.lst (g3 _ _ hacc)) _ _ (frz_tup n e hde) hv) .nil)
        · rintro H2 ⟨g2, acc, hacc, hla, hda⟩
          rw [hlen, List.take_length] at hda
          walk_at "rd"
          refine b_tupL (SqL.of hacc) fun p hp => ?_
          refine q _ _ (Same.more g2 hp) ?_
          rw [hfr, frzAll_map]
          exact .tup (SqT.of upd_same) (DpAll_tup (SameT.new hp) _ _ (by have := tupAll_map ds ds.length hall; rwa [List.take_length] at this) hda)
theorem len_s {f : V → Hp → VK → Prop} : ∀ vs H Q E, s1 f vs H Q E → vs.length = 1 := s1_len
end

end T51

set_option Elab.async false
set_option linter.all false
set_option maxRecDepth 100000
set_option maxHeartbeats 4000000
namespace T51
open PySem PySem.Spec PyProof.Rows L2
local macro_rules | `(tactic| walk_at "rd1") => `(tactic| with_reducible first
  | refine a_seq ?_ | refine a_var rfl ?_ | refine a_c ?_ | refine a_op ?_ | refine a_cons ?_ | refine a_nil ?_ | refine a_cb ?_ | refine a_asg ?_ | refine a_gname ?_ | refine a_ret ?_
  | refine a_if ?_ | refine a_test ?_ | refine a_tB ?_ | refine a_blP ?_ | refine a_and ?_ | refine a_or ?_ | refine a_not ?_ | refine a_andV ?_ | refine a_orV ?_ | refine a_notV ?_ | refine a_ifE ?_
  | refine a_rI0 ?_ | refine a_eqS ?_ | refine a_eqI ?_ | refine a_neS ?_ | refine a_neI ?_ | refine a_call ?_ | refine a_tup ?_ | refine a_lst ?_ | refine a_chain ?_ | refine a_iteT ?_ | refine a_iteF ?_ | refine a_iteNT ?_ | refine a_iteNF ?_
  | refine a_drop ?_ | refine a_next ?_ | refine a_cont ?_ | refine a_break ?_ | refine a_retN ?_ | refine a_ipI ?_ | refine a_aug rfl ?_ | refine a_bm ?_ | refine a_bm0 ?_ | refine b_ord ?_ | refine b_int ?_ | refine b_isN ?_ | refine b_notN ?_ | refine a_un ?_ | refine b_rU ?_ | refine a_fld ?_ | refine a_sfld ?_ | refine a_meth ?_ | refine a_make ?_
  | refine a_dget ?_ | refine a_din ?_ | refine a_dnin ?_ | refine a_dput ?_ | refine a_yes ?_ | refine a_gsub ?_)
local macro_rules | `(tactic| walk_at "is") => `(tactic| with_reducible first
  | refine a_isi_int_int ?_ | refine a_isi_int_bool ?_ | refine a_isi_int_str ?_ | refine a_isi_int_list ?_ | refine a_isi_int_tuple ?_ | refine a_isi_int_dict ?_
  | refine a_isi_bl_int ?_ | refine a_isi_bl_bool ?_ | refine a_isi_bl_str ?_ | refine a_isi_bl_list ?_ | refine a_isi_bl_tuple ?_ | refine a_isi_bl_dict ?_
  | refine a_isi_str_int ?_ | refine a_isi_str_bool ?_ | refine a_isi_str_str ?_ | refine a_isi_str_list ?_ | refine a_isi_str_tuple ?_ | refine a_isi_str_dict ?_
  | refine a_isi_non_int ?_ | refine a_isi_non_bool ?_ | refine a_isi_non_str ?_ | refine a_isi_non_list ?_ | refine a_isi_non_tuple ?_ | refine a_isi_non_dict ?_)
local macro_rules | `(tactic| walk_at "rd") => `(tactic| repeat (walk_at "rd1"))
local macro_rules | `(tactic| walk_at "hp") => `(tactic| first
  | with_reducible assumption
  | with_reducible exact upd_same
  | (with_reducible refine SqL.of ?_; walk_at "hp")
  | (with_reducible refine SqT.of ?_; walk_at "hp")
  | (with_reducible refine Eq.trans (upd_ne ?_) ?_; rotate_left; focus (walk_at "hp"); walk_at "ne")
  | (with_reducible refine (by with_reducible assumption : Same _ _) _ _ ?_; walk_at "hp"))
local macro_rules | `(tactic| walk_at "ne") => `(tactic| first
  | with_reducible assumption
  | with_reducible exact Ne.symm (by with_reducible assumption)
  | (with_reducible refine ne_of_none ?_ (by with_reducible assumption); walk_at "hp")
  | (with_reducible refine Ne.symm (ne_of_none ?_ (by with_reducible assumption)); walk_at "hp"))
local macro_rules | `(tactic| walk_at "rc") => `(tactic| with_reducible first
  | refine a_s1 ?_ | refine a_s2 ?_ | refine a_s3 ?_ | refine a_s4 ?_ | refine a_s0 ?_ | refine a_m1 ?_ | refine a_m2 ?_ | refine a_m3 ?_ | refine a_m4 ?_)
local macro_rules | `(tactic| walk_at "rx1") => `(tactic| with_reducible first
  | refine a_var rfl ?_ | refine a_c ?_ | refine a_op ?_ | refine a_cons ?_ | refine a_nil ?_ | refine a_cb ?_ | refine a_asg ?_ | refine a_gname ?_ | refine a_ret ?_
  | refine a_if ?_ | refine a_test ?_ | refine a_tB ?_ | refine a_blP ?_ | refine a_and ?_ | refine a_or ?_ | refine a_not ?_ | refine a_andV ?_ | refine a_orV ?_ | refine a_notV ?_ | refine a_ifE ?_
  | refine a_rI0 ?_ | refine a_eqS ?_ | refine a_eqI ?_ | refine a_neS ?_ | refine a_neI ?_ | refine a_call ?_ | refine a_tup ?_ | refine a_lst ?_ | refine a_chain ?_ | refine a_iteT ?_ | refine a_iteF ?_ | refine a_iteNT ?_ | refine a_iteNF ?_
  | refine a_drop ?_ | refine a_next ?_ | refine a_cont ?_ | refine a_break ?_ | refine a_retN ?_ | refine a_ipI ?_ | refine a_aug rfl ?_ | refine a_bm ?_ | refine a_bm0 ?_ | refine b_ord ?_ | refine b_int ?_ | refine b_isN ?_ | refine b_notN ?_ | refine a_un ?_ | refine b_rU ?_ | refine a_fld ?_ | refine a_sfld ?_ | refine a_meth ?_ | refine a_make ?_
  | refine a_dget ?_ | refine a_din ?_ | refine a_dnin ?_ | refine a_dput ?_ | refine a_yes ?_ | refine a_gsub ?_)
local macro_rules | `(tactic| walk_at "rx") => `(tactic| repeat (walk_at "rx1"))
section
variable {P : Program} {w : World} {K : PySem.W.Frag} {mg : Str → Option Value} {base : Heap}
theorem fn_none {f : Addr} {fd : FuncData} {ps : List Str} {k : Nat} {sp : Sp} (no : ∀ vs H Q E, ¬ sp vs H Q E) : FnOk P w K mg base CX0 k f fd ps sp :=
  ⟨fun vs H Q E h => absurd h (no vs H Q E), fun A outer s H args us vs Q E _ _ _ _ h => absurd h (no vs H Q E)⟩
theorem ok_frozen0 (M : Md w K mg) : Cal P w K mg base 1 "frozen" ["value"] (s1 (f_frozen 0 K)) := by
  obtain ⟨fd, F⟩ := M.fd_frozen
  have no : ∀ vs H Q E, ¬ s1 (f_frozen 0 K) vs H Q E := fun vs H Q E h => by
    obtain ⟨x, _, d, m, h, _⟩ := h
    cases h
  exact ⟨⟨_, fd, fn_none no, M.gl_frozen, F.kp, F.bindsN fun _ _ _ _ _ _ us hl => match us, hl with | [_], _ => rfl⟩⟩
theorem ok_frozen (M : Md w K mg) (C_is_row : Cal P w K mg base 1 "is_row" ["value"] (s1 (f_is_row K))) : ∀ n, Cal P w K mg base (n + 1) "frozen" ["value"] (s1 (f_frozen n K))
  | 0 => ok_frozen0 M
  | n + 1 => ok_frozen1 M C_is_row (ok_frozen M C_is_row n)
abbrev N_are_params : List Str := ["value", "at"]
abbrev S_are_params : Scope := defScope (top 22)
theorem sc_are_params : FnScope N_are_params ["value"] (defScope (top 22)) := ⟨rfl, rfl, rfl, by decide +kernel, rfl, by decide +kernel, by decide +kernel⟩
def f_are_params (K : PySem.W.Frag) (x : V) (H : Hp) (Q : VK) : Prop := ∃ a zs, x = .ref a ∧ SqT K H a (List.map V.str zs) ∧ zs.length ≤ 3 ∧ (∀ z ∈ zs, nameB z = true) ∧ zs.Nodup ∧ ∀ H', Same H H' → Q (.bl true) H'
theorem eqV_str {a b : Str} : eqV (.str a) (.str b) = (a == b) := rfl
theorem inV_strs {z : Str} : ∀ {zs : List Str}, z ∉ zs → inV (.str z) (List.map V.str zs) = false := by
  intro zs h
  unfold inV
  rw [List.any_eq_false]
  intro v hv
  obtain ⟨y, hy, rfl⟩ := List.mem_map.mp hv
  rw [eqV_str]
  intro e
  exact h (by rw [← eq_of_beq e]; exact hy)
theorem flat_strs : ∀ zs : List Str, (List.map V.str zs).all flatV = true
  | [] => rfl
  | _ :: zs => flat_strs zs
theorem nodup_take {zs : List Str} (h : zs.Nodup) {i : Nat} {z : Str} (e : zs[i]? = some z) : z ∉ zs.take i := by
  intro hm
  obtain ⟨j, hj, e2⟩ := List.mem_iff_getElem.mp hm
  have hj' : j < i ∧ j < zs.length := by
    rw [List.length_take] at hj
    omega
  obtain ⟨hi, e3⟩ := List.getElem?_eq_some_iff.mp e
  rw [List.getElem_take] at e2
  have := (List.getElem_inj h).mp (e2.trans e3.symm)
  omega
theorem ok_are_params (M : Md w K mg) (C_is_row : Cal P w K mg base 1 "is_row" ["value"] (s1 (f_is_row K))) (C_is_name : Cal P w K mg base 1 "is_name" ["value"] (s1 f_is_name)) : Cal P w K mg base 2 "are_params" ["value"] (s1 (f_are_params K)) := by
  obtain ⟨fd, F⟩ := M.fd_are_params
  refine ⟨⟨_, fd, fn_of_d F sc_are_params s1_len (fun cdv A outer s H vs Q E hr h => ?_), M.gl_are_params, F.kp, F.bindsN fun _ _ _ _ _ _ us hl => match us, hl with | [_], _ => rfl⟩⟩
  have hu := hu_of hr
  have nd := sc_are_params.nd
  obtain ⟨_, rfl, a, zs, rfl, hs, hl, hn, hnd, q⟩ := h
  refine ⟨_, (pss_cons (ps_if (PW.pt (pw_or (pt_not (pt_val (pe_cl C_is_row (hr.mono (by first | decide | omega)) rfl (pa_cons (pv 0) pa_nil)))) (pw_or1 (pt_cmpR op_gt (pe_callB (call_lenK (K := K) rfl) rfl M.fr_len PySem.boot_len (pa_cons (pv 0) pa_nil)) pe_int (nomark _))))) (pss_one (ps_ret pe_bl)) pss_nil) (pss_cons (ps_for PassesOwn.never rfl (pi_range1 rfl M.fr_range (pa_cons (pe_callB (call_lenK (K := K) rfl) rfl M.fr_len PySem.boot_len (pa_cons (pv 0) pa_nil)) pa_nil)) (pg_name (i := 1) nd rfl (Or.inl rfl)) (pss_one (ps_if (PW.pt (pw_or (pt_not (pt_val (pe_cl C_is_name (hr.mono (by first | decide | omega)) rfl (pa_cons (pe_ix (ix_tupK (K := K) rfl) (pv 0) (pv 1) (fun _ _ => rfl)) pa_nil)))) (pw_or1 (pt_cmpR (op_inK (K := K) rfl) (pe_ix (ix_tupK (K := K) rfl) (pv 0) (pv 1) (fun _ _ => rfl)) (pe_slice (sl_tupK (K := K) rfl) (pv 0) po_none (po_some (pv 1))) (by first | rfl | exact nomark _))))) (pss_one (ps_ret pe_bl)) pss_nil))) (pss_one (ps_ret pe_bl)))), ?_⟩
  walk_at "rd"; walk_at "rc"
  refine .inl ⟨a, _, rfl, .inr hs, fun H1 g1 => ?_⟩
  walk_at "rd"
  refine b_lenT (Same.seqT g1 hs) ?_
  walk_at "rd"
  rw [List.length_map]
  refine a_ite (fun e => absurd e (by omega)) (fun _ => ?_)
  walk_at "rd"
  refine ⟨_, rfl, _, List.map V.str zs, rfl, .inr (Same.seqT g1 hs), _, rfl, by rw [List.length_map]; omega, by rw [List.length_map]; omega, ?_⟩
  rw [List.length_map, Int.toNat_natCast]
  refine for_range (lo := 0) (n := zs.length) (fun i σ H2 => Same H H2 ∧ ∃ v, σ = [some (.ref a), v]) ⟨g1, _, rfl⟩ ?_ ?_
  · rintro i σ H2 hi ⟨g2, v, rfl⟩
    have hz : zs[i]? = some zs[i] := List.getElem?_eq_getElem hi
    have hx : (List.map V.str zs)[i]? = some (.str zs[i]) := by rw [List.getElem?_map, hz]; rfl
    have hc : ((0 : Int) + (i : Nat)) = ((i : Nat) : Int) := by omega
    rw [hc]
    walk_at "rd"
    refine a_ixT (Same.seqT g2 hs) (atI_nat hx) ?_
    walk_at "rd"; walk_at "rc"
    have hn1 := hn _ (List.getElem_mem hi)
    refine ⟨_, rfl, Nat.le_trans (nameB_len hn1) (by decide), ?_⟩
    rw [hn1]
    walk_at "rd"
    refine a_ixT (Same.seqT g2 hs) (atI_nat hx) ?_
    walk_at "rd"
    refine ⟨_, rfl, _, rfl, _, rfl, _, List.map V.str zs, rfl, Same.seqT g2 hs, ?_, fun p hp => ?_⟩
    · rw [HT.sIx_nat]
      intro h
      have := h.2
      rw [List.length_map] at this
      omega
    have hcut : cutV (List.map V.str zs) none (some ((i : Nat) : Int)) = List.map V.str (zs.take i) := by
      unfold cutV
      rw [HT.sIx_none, HT.sIx_nat, List.length_map, List.drop_zero, Nat.sub_zero, Nat.min_eq_left (Nat.le_of_lt hi), List.map_take]
    rw [hcut]
    refine a_inT (SqT.of upd_same) rfl (flat_strs _) ?_
    rw [inV_strs (nodup_take hnd hz)]
    walk_at "rd"
    exact ⟨Same.more g2 hp, _, rfl⟩
  · rintro σ H2 ⟨g2, v, rfl⟩
    walk_at "rd"
    exact q _ g2
abbrev N_has_head : List Str := ["item", "taken", "name", "params", "body"]
abbrev S_has_head : Scope := defScope (top 23)
theorem sc_has_head : FnScope N_has_head ["item", "taken"] (defScope (top 23)) := ⟨rfl, rfl, rfl, by decide +kernel, rfl, by decide +kernel, by decide +kernel⟩
def f_has_head (K : PySem.W.Frag) (x t : V) (H : Hp) (Q : VK) : Prop := ∃ a tl nm pa ba zs bs ts, x = .ref a ∧ SqT K H a [.str nm, .ref pa, .ref ba] ∧ SqT K H pa (List.map V.str zs) ∧ SqT K H ba bs ∧ bs.length ≤ 8 ∧ t = .ref tl ∧ SqL K H tl (List.map V.str ts) ∧
  nameB nm = true ∧ nm ∉ ts ∧ zs.length ≤ 3 ∧ (∀ z ∈ zs, nameB z = true) ∧ zs.Nodup ∧ (ts = [] → nm = "main" ∧ zs = []) ∧ ∀ H', Same H H' → Q (.bl true) H'
theorem ok_has_head (M : Md w K mg) (C_is_row : Cal P w K mg base 1 "is_row" ["value"] (s1 (f_is_row K))) (C_is_name : Cal P w K mg base 1 "is_name" ["value"] (s1 f_is_name))
    (C_are_params : Cal P w K mg base 2 "are_params" ["value"] (s1 (f_are_params K))) : Cal P w K mg base 3 "has_head" ["item", "taken"] (s2 (f_has_head K)) := by
  obtain ⟨fd, F⟩ := M.fd_has_head
  refine ⟨⟨_, fd, fn_of_d F sc_has_head s2_len (fun cdv A outer s H vs Q E hr h => ?_), M.gl_has_head, F.kp, F.bindsN fun _ _ _ _ _ _ us hl => match us, hl with | [_, _], _ => rfl⟩⟩
  have hu := hu_of hr
  have nd := sc_has_head.nd
  obtain ⟨_, _, rfl, a, tl, nm, pa, ba, zs, bs, ts, rfl, hs, hp, hb, hb8, rfl, ht, hn, hnt, hz3, hzn, hznd, hmain, q⟩ := h
  refine ⟨_, (pss_cons (ps_if (PW.pt (pw_or (pt_not (pt_val (pe_cl C_is_row (hr.mono (by first | decide | omega)) rfl (pa_cons (pv 0) pa_nil)))) (pw_or1 (pt_cmpR op_ne (pe_callB (call_lenK (K := K) rfl) rfl M.fr_len PySem.boot_len (pa_cons (pv 0) pa_nil)) pe_int (nomark _))))) (pss_one (ps_ret pe_bl)) pss_nil) (pss_cons (ps_asg (pv 0) (pg_tup rfl (pgs_cons (pg_name (i := 2) nd rfl (Or.inl rfl)) (pgs_cons (pg_name (i := 3) nd rfl (Or.inl rfl)) (pgs_cons (pg_name (i := 4) nd rfl (Or.inl rfl)) pgs_nil))))) (pss_cons (ps_if (PW.pt (pw_or (pt_not (pt_val (pe_cl C_is_name (hr.mono (by first | decide | omega)) rfl (pa_cons (pv 2) pa_nil)))) (pw_or (pt_cmpR (op_inK (K := K) rfl) (pv 2) (pv 1) (by first | rfl | exact nomark _)) (pw_or1 (pt_not (pt_val (pe_cl C_are_params (hr.mono (by first | decide | omega)) rfl (pa_cons (pv 3) pa_nil)))))))) (pss_one (ps_ret pe_bl)) pss_nil) (pss_cons (ps_if (PW.pt (pw_and (pt_cmpR op_eq (pe_callB (call_lenK (K := K) rfl) rfl M.fr_len PySem.boot_len (pa_cons (pv 1) pa_nil)) pe_int (nomark _)) (pw_and1 (PW.pt (pw_or (pt_cmpR op_ne (pv 2) pe_str (nomark _)) (pw_or1 (pt_cmpR op_gt (pe_callB (call_lenK (K := K) rfl) rfl M.fr_len PySem.boot_len (pa_cons (pv 3) pa_nil)) pe_int (nomark _)))))))) (pss_one (ps_ret pe_bl)) pss_nil) (pss_one (ps_ret (pe_and (pe_cl C_is_row (hr.mono (by first | decide | omega)) rfl (pa_cons (pv 4) pa_nil)) (pe_one (pe_cmpR op_le (pe_callB (call_lenK (K := K) rfl) rfl M.fr_len PySem.boot_len (pa_cons (pv 4) pa_nil)) (pe_globI rfl M.in_MOST_ROWS) (nomark _)))))))))), ?_⟩
  walk_at "rd"; walk_at "rc"
  refine .inl ⟨a, _, rfl, .inr hs, fun H1 g1 => ?_⟩
  walk_at "rd"
  refine b_lenT (Same.seqT g1 hs) ?_
  walk_at "rd"
  refine a_iteN (fun e => absurd rfl e) (fun _ => ?_)
  walk_at "rd"
  refine ⟨a, _, rfl, Same.seqT g1 hs, rfl, _, _, rfl, _, _, rfl, _, _, rfl, rfl, ?_⟩
  walk_at "rd"; walk_at "rc"
  refine ⟨nm, rfl, Nat.le_trans (nameB_len hn) (by decide), ?_⟩
  rw [hn]
  walk_at "rd"
  refine b_inL (g1.seq ht) rfl (flat_strs _) (inV_strs hnt) ?_
  walk_at "rd"; walk_at "rc"
  refine ⟨pa, zs, rfl, Same.seqT g1 hp, hz3, hzn, hznd, fun H2 g2 => ?_⟩
  have g12 := g1.trans g2
  walk_at "rd"
  refine b_lenL (g12.seq ht) ?_
  walk_at "rd"
  rw [List.length_map]
  have last : ∀ H3, Same H H3 → f_is_row K (.ref ba) H3 (fun x H1 => ∃ c, x = V.bl c ∧ if c = true then tOp (rI0 fun i j => V.bl (decide (i ≤ j))) (tCB (rLenQ K) (tCons (tVar 4) tNil)) (tC (.int 8)) [some (V.ref a), some (V.ref tl), some (V.str nm), some (V.ref pa), some (V.ref ba)] H1 Q else Q (V.bl false) H1) := fun H3 g3 => by
    refine .inl ⟨ba, _, rfl, .inr (Same.seqT g3 hb), fun H4 g4 => ?_⟩
    walk_at "rd"
    refine b_lenT (Same.seqT (g3.trans g4) hb) ?_
    walk_at "rd"
    rw [decide_eq_true (show (bs.length : Int) ≤ 8 by omega)]
    exact q _ (g3.trans g4)
  refine a_ite (fun e => ?_) (fun e => ?_)
  · have e0 : ts = [] := List.length_eq_zero_iff.mp (by omega)
    obtain ⟨rfl, rfl⟩ := hmain e0
    walk_at "rd"
    refine a_iteN (fun e => absurd rfl e) (fun _ => ?_)
    walk_at "rd"
    refine b_lenT (Same.seqT g12 hp) ?_
    walk_at "rd"
    refine a_ite (fun e => absurd e (by decide)) (fun _ => ?_)
    walk_at "rd"; walk_at "rc"
    exact last _ g12
  · walk_at "rd"; walk_at "rc"
    exact last _ g12
end

end T51

set_option Elab.async false
set_option linter.all false
set_option maxRecDepth 100000
set_option maxHeartbeats 4000000
namespace T51
open PySem PySem.Spec PyProof.Rows L2
local macro_rules | `(tactic| walk_at "rd1") => `(tactic| with_reducible first
  | refine a_seq ?_ | refine a_var rfl ?_ | refine a_c ?_ | refine a_op ?_ | refine a_cons ?_ | refine a_nil ?_ | refine a_cb ?_ | refine a_asg ?_ | refine a_gname ?_ | refine a_ret ?_
  | refine a_if ?_ | refine a_test ?_ | refine a_tB ?_ | refine a_blP ?_ | refine a_and ?_ | refine a_or ?_ | refine a_not ?_ | refine a_andV ?_ | refine a_orV ?_ | refine a_notV ?_ | refine a_ifE ?_
  | refine a_rI0 ?_ | refine a_eqS ?_ | refine a_eqI ?_ | refine a_neS ?_ | refine a_neI ?_ | refine a_call ?_ | refine a_tup ?_ | refine a_lst ?_ | refine a_chain ?_ | refine a_iteT ?_ | refine a_iteF ?_ | refine a_iteNT ?_ | refine a_iteNF ?_
  | refine a_drop ?_ | refine a_next ?_ | refine a_cont ?_ | refine a_break ?_ | refine a_retN ?_ | refine a_ipI ?_ | refine a_aug rfl ?_ | refine a_bm ?_ | refine a_bm0 ?_ | refine b_ord ?_ | refine b_int ?_ | refine b_isN ?_ | refine b_notN ?_ | refine a_un ?_ | refine b_rU ?_ | refine a_fld ?_ | refine a_sfld ?_ | refine a_meth ?_ | refine a_make ?_
  | refine a_dget ?_ | refine a_din ?_ | refine a_dnin ?_ | refine a_dput ?_ | refine a_yes ?_ | refine a_gsub ?_)
local macro_rules | `(tactic| walk_at "is") => `(tactic| with_reducible first
  | refine a_isi_int_int ?_ | refine a_isi_int_bool ?_ | refine a_isi_int_str ?_ | refine a_isi_int_list ?_ | refine a_isi_int_tuple ?_ | refine a_isi_int_dict ?_
  | refine a_isi_bl_int ?_ | refine a_isi_bl_bool ?_ | refine a_isi_bl_str ?_ | refine a_isi_bl_list ?_ | refine a_isi_bl_tuple ?_ | refine a_isi_bl_dict ?_
  | refine a_isi_str_int ?_ | refine a_isi_str_bool ?_ | refine a_isi_str_str ?_ | refine a_isi_str_list ?_ | refine a_isi_str_tuple ?_ | refine a_isi_str_dict ?_
  | refine a_isi_non_int ?_ | refine a_isi_non_bool ?_ | refine a_isi_non_str ?_ | refine a_isi_non_list ?_ | refine a_isi_non_tuple ?_ | refine a_isi_non_dict ?_)
local macro_rules | `(tactic| walk_at "rd") => `(tactic| repeat (walk_at "rd1"))
local macro_rules | `(tactic| walk_at "hp") => `(tactic| first
  | with_reducible assumption
  | with_reducible exact upd_same
  | (with_reducible refine SqL.of ?_; walk_at "hp")
  | (with_reducible refine SqT.of ?_; walk_at "hp")
  | (with_reducible refine Eq.trans (upd_ne ?_) ?_; rotate_left; focus (walk_at "hp"); walk_at "ne")
  | (with_reducible refine (by with_reducible assumption : Same _ _) _ _ ?_; walk_at "hp"))
local macro_rules | `(tactic| walk_at "ne") => `(tactic| first
  | with_reducible assumption
  | with_reducible exact Ne.symm (by with_reducible assumption)
  | (with_reducible refine ne_of_none ?_ (by with_reducible assumption); walk_at "hp")
  | (with_reducible refine Ne.symm (ne_of_none ?_ (by with_reducible assumption)); walk_at "hp"))
local macro_rules | `(tactic| walk_at "rc") => `(tactic| with_reducible first
  | refine a_s1 ?_ | refine a_s2 ?_ | refine a_s3 ?_ | refine a_s4 ?_ | refine a_s0 ?_ | refine a_m1 ?_ | refine a_m2 ?_ | refine a_m3 ?_ | refine a_m4 ?_)
local macro_rules | `(tactic| walk_at "rx1") => `(tactic| with_reducible first
  | refine a_var rfl ?_ | refine a_c ?_ | refine a_op ?_ | refine a_cons ?_ | refine a_nil ?_ | refine a_cb ?_ | refine a_asg ?_ | refine a_gname ?_ | refine a_ret ?_
  | refine a_if ?_ | refine a_test ?_ | refine a_tB ?_ | refine a_blP ?_ | refine a_and ?_ | refine a_or ?_ | refine a_not ?_ | refine a_andV ?_ | refine a_orV ?_ | refine a_notV ?_ | refine a_ifE ?_
  | refine a_rI0 ?_ | refine a_eqS ?_ | refine a_eqI ?_ | refine a_neS ?_ | refine a_neI ?_ | refine a_call ?_ | refine a_tup ?_ | refine a_lst ?_ | refine a_chain ?_ | refine a_iteT ?_ | refine a_iteF ?_ | refine a_iteNT ?_ | refine a_iteNF ?_
  | refine a_drop ?_ | refine a_next ?_ | refine a_cont ?_ | refine a_break ?_ | refine a_retN ?_ | refine a_ipI ?_ | refine a_aug rfl ?_ | refine a_bm ?_ | refine a_bm0 ?_ | refine b_ord ?_ | refine b_int ?_ | refine b_isN ?_ | refine b_notN ?_ | refine a_un ?_ | refine b_rU ?_ | refine a_fld ?_ | refine a_sfld ?_ | refine a_meth ?_ | refine a_make ?_
  | refine a_dget ?_ | refine a_din ?_ | refine a_dnin ?_ | refine a_dput ?_ | refine a_yes ?_ | refine a_gsub ?_)
local macro_rules | `(tactic| walk_at "rx") => `(tactic| repeat (walk_at "rx1"))
section
variable {P : Program} {w : World} {K : PySem.W.Frag} {mg : Str → Option Value} {base : Heap}
theorem sz2 : 2 ≤ sizeLine := by decide
theorem sz1 : 1 ≤ sizeLine := by decide
theorem sz3 : 3 ≤ sizeLine := by decide
theorem clsB_ok {C : Addr} (h : clsB K C = true) : PySem.W.findIn K (.ref C) "__class__" = some (some (.builtin "object.__class__")) ∧ PySem.W.specialIn K (.builtin "object.__class__") "__get__" = some (some (.builtin "getset_descriptor.__get__")) ∧ PySem.W.takesIn K (.builtin "object.__class__") = some true ∧ PySem.W.mroIn K C (.type "object") = some true := by
  obtain ⟨h1, h⟩ := He.ba h
  obtain ⟨h2, h⟩ := He.ba h
  obtain ⟨h3, h4⟩ := He.ba h
  exact ⟨He.eqO_ok h1, He.eqO_ok h2, of_decide_eq_true h3, of_decide_eq_true h4⟩
/-! ### programs -/
structure Proc where
  nm : Str
  zs : List Str
  es : List PyData
def procD (p : Proc) : PyData := .tuple [.str p.nm, .tuple (p.zs.map .str), .tuple p.es]
theorem DpAll_strs {H : Hp} : ∀ {zs : List Str} {xs : List V}, DpAll K H xs (zs.map .str) → xs = zs.map V.str
  | [], _, h => by cases h; rfl
  | z :: zs, _, h => by
    cases h with
    | cons h1 h2 =>
      cases h1
      rw [DpAll_strs h2]
      rfl
theorem procD_at {H : Hp} {v : V} {p : Proc} (h : Dp K H v (procD p)) : ∃ a pa ba bs, v = .ref a ∧ SqT K H a [.str p.nm, .ref pa, .ref ba] ∧ SqT K H pa (p.zs.map V.str) ∧ SqT K H ba bs ∧ DpAll K H bs p.es ∧ Dp K H (.ref ba) (.tuple p.es) := by
  cases h with
  | tup hs ha =>
    cases ha with
    | cons h1 ha =>
      cases h1
      cases ha with
      | cons h2 ha =>
        cases ha with
        | cons h3 ha =>
          cases ha
          cases h2 with
          | tup hp hpa =>
            have := DpAll_strs hpa
            subst this
            cases h3 with
            | tup hb hba => exact ⟨_, _, _, _, rfl, hs, hp, hb, hba, .tup hb hba⟩
abbrev N_body_fault : List Str := ["body", "many", "at"]
abbrev S_body_fault : Scope := defScope (top 24)
theorem sc_body_fault : FnScope N_body_fault ["body", "many"] (defScope (top 24)) := ⟨rfl, rfl, rfl, by decide +kernel, rfl, by decide +kernel, by decide +kernel⟩
def f_body_fault (R : List PyData → Int → Int → Prop) (K : PySem.W.Frag) (b m : V) (H : Hp) (Q : VK) : Prop := ∃ a n n' ds, b = .ref a ∧ Dp K H (.ref a) (.tuple ds) ∧ R ds n n' ∧ m = .int n ∧ ∀ p H', Same H H' → H' p = some (.tup [.non, .int n']) → Q (.ref p) H'
def noBody : List PyData → Int → Int → Prop := fun ds n n' => ds = [] ∧ n = n'
theorem ok_body_fault0 (M : Md w K mg) : Cal P w K mg base 1 "body_fault" ["body", "many"] (s2 (f_body_fault noBody K)) := by
  obtain ⟨fd, F⟩ := M.fd_body_fault
  refine ⟨⟨_, fd, fn_of_d F sc_body_fault s2_len (fun cdv A outer s H vs Q E hr h => ?_), M.gl_body_fault, F.kp, F.bindsN fun _ _ _ _ _ _ us hl => match us, hl with | [_, _], _ => rfl⟩⟩
  have hu := hu_of hr
  have nd := sc_body_fault.nd
  obtain ⟨_, _, rfl, a, n, _, _, rfl, hd, ⟨rfl, rfl⟩, rfl, q⟩ := h
  obtain ⟨xs, hs, hx⟩ : ∃ xs, SqT K H a xs ∧ DpAll K H xs [] := by
    cases hd with
    | tup h1 h2 => exact ⟨_, h1, h2⟩
  cases hx
  refine ⟨_, (pss_cons (ps_for PassesOwn.never rfl (pi_range1 rfl M.fr_range (pa_cons (pe_callB (call_lenK (K := K) rfl) rfl M.fr_len PySem.boot_len (pa_cons (pv 0) pa_nil)) pa_nil)) (pg_name (i := 2) nd rfl (Or.inl rfl)) pss_never) (pss_one (ps_ret (pe_tup (pa_cons pe_non (pa_cons (pv 1) pa_nil)))))), ?_⟩
  walk_at "rd"
  refine ⟨_, rfl, a, _, rfl, .inr hs, _, rfl, by decide, by decide, ?_⟩
  refine for_range (lo := 0) (n := 0) (fun i σ H2 => H2 = H ∧ σ = [some (.ref a), some (.int n), none]) ⟨rfl, rfl⟩ ?_ ?_
  · intro i σ H2 hi
    exact absurd hi (Nat.not_lt_zero _)
  · rintro σ H2 ⟨rfl, rfl⟩
    walk_at "rd"
    refine ⟨sz2, fun p hp => ?_⟩
    exact q p _ (Same.new hp) upd_same
/-- a Program stands at p, its names zs, its procedures the data d -/
def PgAt (K : PySem.W.Frag) (H : Hp) (p : Addr) (ps : List Proc) : Prop := ∃ dx pa xs, H p = some (.ins (He.ga K "Program") dx [("procedures", .ref pa)]) ∧ SqT K H pa xs ∧ DpAll K H xs (ps.map procD) ∧ tupOnlyAll (ps.map procD) = true ∧ SeqAt.shaped (.tuple (ps.map procD)) = true
theorem PgAt.mono {H H' : Hp} {p : Addr} {ps : List Proc} (e : Same H H') (h : PgAt K H p ps) : PgAt K H' p ps := by
  obtain ⟨dx, pa, xs, h1, h2, h3, h4, h5⟩ := h
  exact ⟨dx, pa, xs, e _ _ h1, Same.seqT e h2, DpAll_mono e _ _ h3, h4, h5⟩
theorem PgAt.but {H H' : Hp} {p q C dx : Addr} {fs : List (Str × V)} {ps : List Proc} (hq : H q = some (.ins C dx fs)) (e : But q H H') (hpq : p ≠ q) (h : PgAt K H p ps) : PgAt K H' p ps := by
  obtain ⟨dx, pa, xs, h1, h2, h3, h4, h5⟩ := h
  exact ⟨dx, pa, xs, e _ _ h1 hpq, (But.sameT hq e).sq h2, DpAll_tup (But.sameT hq e) _ _ h4 h3, h4, h5⟩
structure GoodPs (R : List PyData → Int → Int → Prop) (ps : List Proc) : Prop where
  len : 1 ≤ ps.length ∧ ps.length ≤ 6
  nm : ∀ p ∈ ps, nameB p.nm = true
  nd : (ps.map (·.nm)).Nodup
  zs : ∀ p ∈ ps, p.zs.length ≤ 3 ∧ (∀ z ∈ p.zs, nameB z = true) ∧ p.zs.Nodup
  es : ∀ p ∈ ps, p.es.length ≤ 8
  main : ∀ p, ps[0]? = some p → p.nm = ("main" : Str) ∧ p.zs = []
  cnt : ∃ ns : Nat → Int, ns 0 = 0 ∧ ∀ i p, ps[i]? = some p → R p.es (ns i) (ns (i + 1))
  dep : ∀ p ∈ ps, DepLe 12 (procD p)
  frz : ∀ p ∈ ps, frz (procD p) = procD p
  shp : SeqAt.shaped (.tuple (ps.map procD)) = true
abbrev N_Program___init__ : List Str := ["self", "procedures", "taken", "many", "at", "fault"]
abbrev S_Program___init__ : Scope := defScope (inClass (top 67) 0)
theorem sc_Program___init__ : FnScope N_Program___init__ ["self", "procedures"] (defScope (inClass (top 67) 0)) := ⟨rfl, rfl, rfl, by decide +kernel, rfl, by decide +kernel, by decide +kernel⟩
def f_prog_init (R : List PyData → Int → Int → Prop) (K : PySem.W.Frag) (x l : V) (H : Hp) (Q : VK) : Prop := ∃ p dx la xs ps, x = .ref p ∧ H p = some (.ins (He.ga K "Program") dx []) ∧ l = .ref la ∧ H la = some (.lst xs) ∧ DpAll K H xs (ps.map procD) ∧ GoodPs R ps ∧
  ∀ H', But p H H' → PgAt K H' p ps → Q .non H'
theorem ok_prog_init {R : List PyData → Int → Int → Prop} (M : Md w K mg) (C_is_row : Cal P w K mg base 1 "is_row" ["value"] (s1 (f_is_row K))) (C_has_head : Cal P w K mg base 3 "has_head" ["item", "taken"] (s2 (f_has_head K)))
    {k : Nat} (C_body_fault : Cal P w K mg base k "body_fault" ["body", "many"] (s2 (f_body_fault R K))) (C_frozen : Cal P w K mg base 15 "frozen" ["value"] (s1 (f_frozen 14 K))) (hk : k ≤ 15) : CalI P w K mg base 16 "Program" (He.ga K "Program") ["self", "procedures"] (s2 (f_prog_init R K)) := by
  obtain ⟨fd, F⟩ := M.fd_Program___init__
  refine ⟨⟨_, fd, fn_of_d F sc_Program___init__ s2_len (fun cdv A outer s H vs Q E hr h => ?_), M.mk_Program, F.bindsN fun _ _ _ _ _ _ us hl => match us, hl with | [_, _], _ => rfl⟩, M.gl_Program⟩
  have hu := hu_of hr
  have nd := sc_Program___init__.nd
  obtain ⟨_, _, rfl, p, dx, la, xs, ps, rfl, hp, rfl, hl, hx, G, q⟩ := h
  have hlen := DpAll_len hx
  rw [List.length_map] at hlen
  have h16 := G.len
  refine ⟨_, (pss_cons (ps_if (PW.pt (pw_or (pt_not (pt_val (pe_cl C_is_row (hr.mono (by first | decide | omega)) rfl (pa_cons (pv 1) pa_nil)))) (pw_or1 (pt_not (pt_chain op_le op_le pe_int (pe_callB (call_lenK (K := K) rfl) rfl M.fr_len PySem.boot_len (pa_cons (pv 1) pa_nil)) (pe_globI rfl M.in_MOST_PROCEDURES)))))) (pss_one ps_never) pss_nil) (pss_cons (ps_set (i := 2) nd rfl (Or.inl rfl) (pe_lst pa_nil)) (pss_cons (ps_set (i := 3) nd rfl (Or.inl rfl) pe_int) (pss_cons (ps_for PassesOwn.never rfl (pi_range1 rfl M.fr_range (pa_cons (pe_callB (call_lenK (K := K) rfl) rfl M.fr_len PySem.boot_len (pa_cons (pv 1) pa_nil)) pa_nil)) (pg_name (i := 4) nd rfl (Or.inl rfl)) (pss_cons (ps_if (pt_not (pt_val (pe_cl C_has_head (hr.mono (by first | decide | omega)) rfl (pa_cons (pe_ix (ix_listK (K := K) rfl) (pv 1) (pv 4) (fun _ _ => rfl)) (pa_cons (pv 2) pa_nil))))) (pss_one ps_never) pss_nil) (pss_cons (ps_asg (pe_cl C_body_fault (hr.mono (by first | decide | omega)) rfl (pa_cons (pe_ix (ix_tupK (K := K) rfl) (pe_ix (ix_listK (K := K) rfl) (pv 1) (pv 4) (fun _ _ => rfl)) pe_int (fun _ _ => rfl)) (pa_cons (pv 3) pa_nil))) (pg_tup rfl (pgs_cons (pg_name (i := 5) nd rfl (Or.inl rfl)) (pgs_cons (pg_name (i := 3) nd rfl (Or.inl rfl)) pgs_nil)))) (pss_cons (ps_if (pt_cmpR op_notNn (pv 5) pe_non (nomark _)) (pss_one ps_never) pss_nil) (pss_one (ps_expr (pe_bm PySem.F.plainAttrs_list PySem.F.slot_list_append PySem.F.type_list_append mt_append (pv 2) (pa_cons (pe_ix (ix_tupK (K := K) rfl) (pe_ix (ix_listK (K := K) rfl) (pv 1) (pv 4) (fun _ _ => rfl)) pe_int (fun _ _ => rfl)) pa_nil)))))))) (pss_one (ps_fld (pv 0) (pe_cl C_frozen (hr.mono (by first | decide | omega)) rfl (pa_cons (pv 1) pa_nil)) rfl)))))), ?_⟩
  walk_at "rd"; walk_at "rc"
  refine .inl ⟨la, _, rfl, .inl (SqL.of hl), fun H1 g1 => ?_⟩
  walk_at "rd"
  refine b_lenL (SqL.of (g1 _ _ hl)) ?_
  walk_at "rd"
  refine a_ite (fun _ => ?_) (fun e => absurd e (by omega))
  walk_at "rd"
  refine a_iteN (fun e => absurd e (by omega)) (fun _ => ?_)
  walk_at "rd"
  refine ⟨by decide, fun tl htl => ?_⟩
  have htl0 := Same.free g1 htl
  have g2 := Same.more (o := .lst []) g1 htl
  walk_at "rd"
  obtain ⟨ns, hns0, hns⟩ := G.cnt
  refine ⟨_, rfl, la, xs, rfl, .inl (SqL.of (g2 _ _ hl)), _, rfl, by omega, by omega, ?_⟩
  rw [Int.toNat_natCast]
  refine for_range (lo := 0) (n := xs.length) (fun i σ H2 => Same H H2 ∧ H2 tl = some (.lst (((ps.take i).map (·.nm)).map V.str)) ∧ ∃ v5 v6, σ = [some (.ref p), some (.ref la), some (.ref tl), some (.int (ns i)), v5, v6]) ⟨g2, upd_same, _, _, by rw [hns0]; rfl⟩ ?_ ?_
  · rintro i σ H2 hi ⟨g3, ht, v5, v6, rfl⟩
    have hc : ((0 : Int) + (i : Nat)) = ((i : Nat) : Int) := by omega
    rw [hc]
    have hxi : xs[i]? = some xs[i] := List.getElem?_eq_getElem hi
    obtain ⟨d, hd, hdp⟩ := DpAll_at hx hxi
    rw [List.getElem?_map] at hd
    obtain ⟨pr, hpr, rfl⟩ := Option.map_eq_some_iff.mp hd
    have hm := List.mem_of_getElem? hpr
    obtain ⟨a, pa, ba, bs, hv, hs, hpa, hba, hbs, hbd⟩ := procD_at hdp
    walk_at "rd"
    refine a_ixL (SqL.of (g3 _ _ hl)) (atI_nat hxi) ?_
    rw [hv]
    walk_at "rd"; walk_at "rc"
    refine ⟨a, tl, _, pa, ba, _, bs, (ps.take i).map (·.nm), rfl, Same.seqT g3 hs, Same.seqT g3 hpa, Same.seqT g3 hba, by rw [DpAll_len hbs]; exact G.es pr hm, rfl, SqL.of ht, G.nm pr hm, ?_, (G.zs pr hm).1, (G.zs pr hm).2.1, (G.zs pr hm).2.2, ?_, fun H3 g4 => ?_⟩
    · have := nodup_take G.nd (i := i) (z := pr.nm) (by rw [List.getElem?_map, hpr]; rfl)
      rwa [← List.map_take] at this
    · intro e
      have hi0 : i = 0 := by
        rcases Nat.eq_zero_or_pos i with h | h
        · exact h
        · have := congrArg List.length e
          rw [List.length_map, List.length_take, List.length_nil] at this
          omega
      subst hi0
      exact G.main pr hpr
    have g5 := g3.trans g4
    walk_at "rd"
    refine a_ixL (SqL.of (g5 _ _ hl)) (atI_nat hxi) ?_
    rw [hv]
    walk_at "rd"
    refine a_ixT (Same.seqT g5 hs) rfl ?_
    walk_at "rd"; walk_at "rc"
    refine ⟨ba, ns i, ns (i + 1), pr.es, rfl, Dp_mono g5 _ _ hbd, hns i pr hpr, rfl, fun t H4 g6 htt => ?_⟩
    have g7 := g5.trans g6
    refine ⟨t, _, rfl, SqT.of htt, rfl, _, _, rfl, _, _, rfl, rfl, ?_⟩
    walk_at "rd"
    refine a_iteN (fun e => absurd rfl e) (fun _ => ?_)
    walk_at "rd"
    refine b_appendE (g6 _ _ (g4 _ _ ht)) ?_
    walk_at "rd"
    refine a_ixL (SqL.of (g7 _ _ hl)) (atI_nat hxi) ?_
    rw [hv]
    walk_at "rd"
    refine a_ixT (Same.seqT g7 hs) rfl ?_
    walk_at "rd"
    refine b_app (g6 _ _ (g4 _ _ ht)) ?_ ?_
    · rw [List.length_map, List.length_map, List.length_take]
      omega
    walk_at "rd"
    refine ⟨Same.mut g7 htl0, ?_, _, _, rfl⟩
    rw [upd_same, take_succ_at hpr, List.map_append, List.map_append]
    rfl
  · rintro σ H2 ⟨g3, ht, v5, v6, rfl⟩
    walk_at "rd"; walk_at "rc"
    have hds : frz (.list (ps.map procD)) = .tuple (ps.map procD) := by
      unfold frz
      rw [frzAll_map, List.map_map]
      exact congrArg PyData.tuple (List.map_congr_left fun p hp => G.frz p hp)
    refine ⟨.list (ps.map procD), 13, rfl, .lst (SqL.of (g3 _ _ hl)) (DpAll_mono g3 _ _ hx), .inr ⟨_, .inl rfl, by rw [List.length_map]; omega, fun e he => ?_⟩, fun v H3 g4 hv => ?_⟩
    · obtain ⟨p, hp, rfl⟩ := List.mem_map.mp he
      exact G.dep p hp
    rw [hds] at hv
    obtain ⟨pa, ys, rfl, hs, hy⟩ : ∃ pa ys, v = .ref pa ∧ SqT K H3 pa ys ∧ DpAll K H3 ys (ps.map procD) := by
      cases hv with
      | tup h1 h2 => exact ⟨_, _, rfl, h1, h2⟩
    have g5 := g3.trans g4
    have ht : tupOnlyAll (ps.map procD) = true := by
      have := tupAll_map (ps.map procD) (ps.map procD).length (n := 12) (fun e he => by obtain ⟨p, hp, rfl⟩ := List.mem_map.mp he; exact G.dep p hp)
      rw [List.take_length, List.map_map] at this
      rwa [show ps.map (frz ∘ procD) = ps.map procD from List.map_congr_left fun p hp => G.frz p hp] at this
    walk_at "rd"
    refine b_sfld (g5 _ _ hp) M.cl_Program M.na_Program_procedures (by decide) ?_
    have bt : But p H (upd H3 p (.ins (He.ga K "Program") dx [("procedures", .ref pa)])) := (But.of g5).trans But.upd
    have st := SameT.ins (o := .ins (He.ga K "Program") dx [("procedures", .ref pa)]) (g5 _ _ hp)
    exact q _ bt ⟨dx, pa, ys, upd_same, st.sq hs, DpAll_tup st _ _ ht hy, ht, G.shp⟩
abbrev N_Program_names : List Str := ["self", "item"]
abbrev S_Program_names : Scope := defScope (inClass (top 67) 1)
theorem sc_Program_names : FnScope N_Program_names ["self"] (defScope (inClass (top 67) 1)) := ⟨rfl, rfl, rfl, by decide +kernel, rfl, by decide +kernel, by decide +kernel⟩
def f_names (K : PySem.W.Frag) (x : V) (H : Hp) (Q : VK) : Prop := ∃ p ps, x = .ref p ∧ PgAt K H p ps ∧ ps.length ≤ 1000 ∧ ∀ l H', Same H H' → H l = none → H' l = some (.lst ((ps.map (·.nm)).map V.str)) → Q (.ref l) H'
theorem ok_names (M : Md w K mg) : CalM P w K mg base 1 (He.ga K "Program") "names" ["self"] (s1 (f_names K)) := by
  obtain ⟨fd, F⟩ := M.fd_Program_names
  refine ⟨⟨_, fd, fn_of_d F sc_Program_names s1_len (fun cdv A outer s H vs Q E hr h => ?_), M.me_Program_names, F.bindsN fun _ _ _ _ _ _ us hl => match us, hl with | [_], _ => rfl⟩, M.cl_Program⟩
  have hu := hu_of hr
  have nd := sc_Program_names.nd
  obtain ⟨_, rfl, p, ps, rfl, ⟨dx, pa, xs, hp, hs, hx, _, _⟩, hl, q⟩ := h
  have hlen := DpAll_len hx
  rw [List.length_map] at hlen
  refine ⟨_, (pss_one (ps_ret (pe_lc (own := [("item", 1)]) (g := gName 1) (tt := tYes) rfl nd (pi_tup (pe_fldK (K := K) rfl (pv 0) rfl)) (blkOk_by (own := [("item", 1)]) (N := N_Program_names) (sc := S_Program_names) (by decide +kernel)) (fun _ _ _ _ _ => (pg_name (i := 1) nd rfl (Or.inl rfl))) (fun _ _ _ _ _ => pts_nil) (fun _ _ _ _ _ => (pe_ix (ix_tupK (K := K) rfl) (pv 1) pe_int (fun _ _ => rfl)))))), ?_⟩
  walk_at "rd"
  refine ⟨_, rfl, _, _, _, _, _, rfl, hp, M.cl_Program, M.na_Program_procedures, lk_hit, pa, rfl, ⟨_, hs⟩, fun D hD => lc_it (walk_tup (xs := xs)) (fun i H2 => Same H H2 ∧ H2 D = some (.lst (((ps.take i).map (·.nm)).map V.str))) ?_ ?_ ?_ ?_⟩
  · exact ⟨Same.new hD, upd_same⟩
  · rintro i H2 hi ⟨g2, _⟩
    exact Same.seqT g2 hs
  · rintro i x H2 H2' hi ⟨g2, hacc⟩ ⟨rfl, hxi⟩
    obtain ⟨d, hd, hdp⟩ := DpAll_at hx hxi
    rw [List.getElem?_map] at hd
    obtain ⟨pr, hpr, rfl⟩ := Option.map_eq_some_iff.mp hd
    obtain ⟨a, _, _, _, rfl, hsa, _⟩ := procD_at hdp
    walk_at "rd"
    refine ⟨rfl, ?_⟩
    walk_at "rd"
    refine a_ixT (Same.seqT g2 hsa) rfl ?_
    refine ⟨_, hacc, ?_, ?_⟩
    · rw [List.length_map, List.length_map, List.length_take]
      exact small1000 (by omega)
    refine ⟨Same.mut g2 hD, ?_⟩
    rw [upd_same, take_succ_at hpr, List.map_append, List.map_append]
    rfl
  · rintro H2 ⟨g2, hacc⟩
    rw [hlen, List.take_length] at hacc
    exact q _ _ g2 hD hacc
abbrev N_Program___eq__ : List Str := ["self", "other"]
abbrev S_Program___eq__ : Scope := defScope (inClass (top 67) 3)
theorem sc_Program___eq__ : FnScope N_Program___eq__ ["self", "other"] (defScope (inClass (top 67) 3)) := ⟨rfl, rfl, rfl, by decide +kernel, rfl, by decide +kernel, by decide +kernel⟩
def f_prog_eq (K : PySem.W.Frag) (x y : V) (H : Hp) (Q : VK) : Prop := ∃ p q ps, x = .ref p ∧ y = .ref q ∧ PgAt K H p ps ∧ PgAt K H q ps ∧ Q (.bl true) H
theorem ok_prog_eq (M : Md w K mg) : CalM P w K mg base 1 (He.ga K "Program") "__eq__" ["self", "other"] (s2 (f_prog_eq K)) := by
  obtain ⟨fd, F⟩ := M.fd_Program___eq__
  refine ⟨⟨_, fd, fn_of_d F sc_Program___eq__ s2_len (fun cdv A outer s H vs Q E hr h => ?_), M.me_Program___eq__, F.bindsN fun _ _ _ _ _ _ us hl => match us, hl with | [_, _], _ => rfl⟩, M.cl_Program⟩
  have hu := hu_of hr
  have nd := sc_Program___eq__.nd
  obtain ⟨_, _, rfl, p, q, ps, rfl, rfl, ⟨dx, pa, xs, hp, hs, hx, _, hsh⟩, ⟨dy, pb, ys, hq, ht, hy, _, _⟩, k⟩ := h
  refine ⟨_, (pss_one (ps_ret (pe_and (pe_callB (call_isiKK (K := K) rfl) rfl M.fr_isinstance (by decide +kernel) (pa_cons (pv 1) (pa_cons (pe_globR rfl M.gl_Program) pa_nil))) (pe_one (pe_cmpR (op_eqDK (K := K) rfl hr.units) (pe_fldK (K := K) rfl (pv 0) rfl) (pe_fldK (K := K) rfl (pv 1) rfl) (nomark _)))))), ?_⟩
  walk_at "rd"
  refine a_isiC hq M.cl_Program (clsB_ok M.cx_Program) ?_
  walk_at "rd"
  refine b_fld hp M.cl_Program M.na_Program_procedures lk_hit ?_
  walk_at "rd"
  refine b_fld hq M.cl_Program M.na_Program_procedures lk_hit ?_
  refine ⟨_, _, .tup hs hx, .tup ht hy, hsh, hsh, ?_⟩
  rw [SeqAt.eqv_refl _ (SeqAt.canLay_of_shaped hsh)]
  exact k
end

end T51

set_option Elab.async false
set_option linter.all false
set_option maxRecDepth 100000
set_option maxHeartbeats 4000000
namespace T51
open PySem PySem.Spec PyProof.Rows L2
local macro_rules | `(tactic| walk_at "rd1") => `(tactic| with_reducible first
  | refine a_seq ?_ | refine a_var rfl ?_ | refine a_c ?_ | refine a_op ?_ | refine a_cons ?_ | refine a_nil ?_ | refine a_cb ?_ | refine a_asg ?_ | refine a_gname ?_ | refine a_ret ?_
  | refine a_if ?_ | refine a_test ?_ | refine a_tB ?_ | refine a_blP ?_ | refine a_and ?_ | refine a_or ?_ | refine a_not ?_ | refine a_andV ?_ | refine a_orV ?_ | refine a_notV ?_ | refine a_ifE ?_
  | refine a_rI0 ?_ | refine a_eqS ?_ | refine a_eqI ?_ | refine a_neS ?_ | refine a_neI ?_ | refine a_call ?_ | refine a_tup ?_ | refine a_lst ?_ | refine a_chain ?_ | refine a_iteT ?_ | refine a_iteF ?_ | refine a_iteNT ?_ | refine a_iteNF ?_
  | refine a_drop ?_ | refine a_next ?_ | refine a_cont ?_ | refine a_break ?_ | refine a_retN ?_ | refine a_ipI ?_ | refine a_aug rfl ?_ | refine a_bm ?_ | refine a_bm0 ?_ | refine b_ord ?_ | refine b_int ?_ | refine b_isN ?_ | refine b_notN ?_ | refine a_un ?_ | refine b_rU ?_ | refine a_fld ?_ | refine a_sfld ?_ | refine a_meth ?_ | refine a_make ?_
  | refine a_dget ?_ | refine a_din ?_ | refine a_dnin ?_ | refine a_dput ?_ | refine a_yes ?_ | refine a_gsub ?_)
local macro_rules | `(tactic| walk_at "is") => `(tactic| with_reducible first
  | refine a_isi_int_int ?_ | refine a_isi_int_bool ?_ | refine a_isi_int_str ?_ | refine a_isi_int_list ?_ | refine a_isi_int_tuple ?_ | refine a_isi_int_dict ?_
  | refine a_isi_bl_int ?_ | refine a_isi_bl_bool ?_ | refine a_isi_bl_str ?_ | refine a_isi_bl_list ?_ | refine a_isi_bl_tuple ?_ | refine a_isi_bl_dict ?_
  | refine a_isi_str_int ?_ | refine a_isi_str_bool ?_ | refine a_isi_str_str ?_ | refine a_isi_str_list ?_ | refine a_isi_str_tuple ?_ | refine a_isi_str_dict ?_
  | refine a_isi_non_int ?_ | refine a_isi_non_bool ?_ | refine a_isi_non_str ?_ | refine a_isi_non_list ?_ | refine a_isi_non_tuple ?_ | refine a_isi_non_dict ?_)
local macro_rules | `(tactic| walk_at "rd") => `(tactic| repeat (walk_at "rd1"))
local macro_rules | `(tactic| walk_at "hp") => `(tactic| first
  | with_reducible assumption
  | with_reducible exact upd_same
  | (with_reducible refine SqL.of ?_; walk_at "hp")
  | (with_reducible refine SqT.of ?_; walk_at "hp")
  | (with_reducible refine Eq.trans (upd_ne ?_) ?_; rotate_left; focus (walk_at "hp"); walk_at "ne")
  | (with_reducible refine (by with_reducible assumption : Same _ _) _ _ ?_; walk_at "hp"))
local macro_rules | `(tactic| walk_at "ne") => `(tactic| first
  | with_reducible assumption
  | with_reducible exact Ne.symm (by with_reducible assumption)
  | (with_reducible refine ne_of_none ?_ (by with_reducible assumption); walk_at "hp")
  | (with_reducible refine Ne.symm (ne_of_none ?_ (by with_reducible assumption)); walk_at "hp"))
local macro_rules | `(tactic| walk_at "rc") => `(tactic| with_reducible first
  | refine a_s1 ?_ | refine a_s2 ?_ | refine a_s3 ?_ | refine a_s4 ?_ | refine a_s0 ?_ | refine a_m1 ?_ | refine a_m2 ?_ | refine a_m3 ?_ | refine a_m4 ?_)
local macro_rules | `(tactic| walk_at "rx1") => `(tactic| with_reducible first
  | refine a_var rfl ?_ | refine a_c ?_ | refine a_op ?_ | refine a_cons ?_ | refine a_nil ?_ | refine a_cb ?_ | refine a_asg ?_ | refine a_gname ?_ | refine a_ret ?_
  | refine a_if ?_ | refine a_test ?_ | refine a_tB ?_ | refine a_blP ?_ | refine a_and ?_ | refine a_or ?_ | refine a_not ?_ | refine a_andV ?_ | refine a_orV ?_ | refine a_notV ?_ | refine a_ifE ?_
  | refine a_rI0 ?_ | refine a_eqS ?_ | refine a_eqI ?_ | refine a_neS ?_ | refine a_neI ?_ | refine a_call ?_ | refine a_tup ?_ | refine a_lst ?_ | refine a_chain ?_ | refine a_iteT ?_ | refine a_iteF ?_ | refine a_iteNT ?_ | refine a_iteNF ?_
  | refine a_drop ?_ | refine a_next ?_ | refine a_cont ?_ | refine a_break ?_ | refine a_retN ?_ | refine a_ipI ?_ | refine a_aug rfl ?_ | refine a_bm ?_ | refine a_bm0 ?_ | refine b_ord ?_ | refine b_int ?_ | refine b_isN ?_ | refine b_notN ?_ | refine a_un ?_ | refine b_rU ?_ | refine a_fld ?_ | refine a_sfld ?_ | refine a_meth ?_ | refine a_make ?_
  | refine a_dget ?_ | refine a_din ?_ | refine a_dnin ?_ | refine a_dput ?_ | refine a_yes ?_ | refine a_gsub ?_)
local macro_rules | `(tactic| walk_at "rx") => `(tactic| repeat (walk_at "rx1"))
theorem dc_it {J : It} {n : Nat} {G : Hp → Prop} {Y : Nat → Hp → V → Hp → Prop} (w : Walk J n G Y) {g : TG} {tt : TT} {tk tv : TE} {vs : List Nat} {σ : L2.St} {H1 : Hp} {D : Addr} {Qd : Hp → Prop} (Pv : Nat → Hp → Prop) (h0 : Pv 0 (upd H1 D (.dK []))) (hG : ∀ i H, i ≤ n → Pv i H → G H)
    (hs : ∀ i x H H', i < n → Pv i H → Y i H x H' → g x (wipe σ vs) H' fun σ2 H2 => wipe σ2 vs = wipe σ vs ∧ tt σ2 H2 fun b H3 =>
      if b = true then tk σ2 H3 fun y H4 => tv σ2 H4 fun z H5 => ∃ kvs k, y = kV k ∧ H5 D = some (.dK kvs) ∧ kvs.length < sizeLine ∧ Pv (i + 1) (upd H5 D (.dK (putK kvs k z))) else Pv (i + 1) H3) (hd : ∀ H, Pv n H → Qd H) :
    ∃ W : Nat → Nat → Hp → Prop, (∃ m, W 0 m (upd H1 D (.dK []))) ∧ ∀ i m H, W i m H →
      (J.stop i H ∧ Qd H) ∨ (J.go i H ∧ ∃ Nx : Hp → Prop, (∀ H', Nx H' → ∃ m', m' < m ∧ W (i + 1) m' H') ∧ ∀ x H', J.yld i H x H' → g x (wipe σ vs) H' fun σ2 H2 => wipe σ2 vs = wipe σ vs ∧ tt σ2 H2 fun b H3 =>
        if b = true then tk σ2 H3 fun y H4 => tv σ2 H4 fun z H5 => ∃ kvs k, y = kV k ∧ H5 D = some (.dK kvs) ∧ kvs.length < sizeLine ∧ Nx (upd H5 D (.dK (putK kvs k z))) else Nx H3) := by
  refine ⟨fun i m H => m = n - i ∧ i ≤ n ∧ Pv i H, ⟨n, by simp, Nat.zero_le _, h0⟩, ?_⟩
  rintro i m H ⟨rfl, hi, p⟩
  have q := hG i H hi p
  by_cases hlt : i < n
  · exact .inr ⟨w.goes i H hlt q, Pv (i + 1), fun H' p' => ⟨n - (i + 1), by omega, rfl, hlt, p'⟩, fun x H' y => hs i x H H' hlt p (w.yields i H x H' hlt q y)⟩
  · have e : i = n := by omega
    subst e
    exact .inl ⟨w.stops H q, hd H p⟩
section
variable {P : Program} {w : World} {K : PySem.W.Frag} {mg : Str → Option Value} {base : Heap}
/-! ### codes -/
def RowAt (K : PySem.W.Frag) (H : Hp) (v : V) (r : Ins) : Prop := ∃ a, v = .ref a ∧ SqT K H a (insV r)
def Rows (K : PySem.W.Frag) (H : Hp) (xs : List V) (rs : List Ins) : Prop := Paired (RowAt K H) xs rs
theorem Rows.len {H : Hp} {xs : List V} {rs : List Ins} (h : Rows K H xs rs) : xs.length = rs.length := Paired.length h
theorem Rows.tup {H H' : Hp} {xs : List V} {rs : List Ins} (e : SameT H H') (h : Rows K H xs rs) : Rows K H' xs rs := Paired_mono (fun v r ⟨a, h1, h2⟩ => ⟨a, h1, e.sq h2⟩) h
theorem Rows.mono {H H' : Hp} {xs : List V} {rs : List Ins} (e : Same H H') (h : Rows K H xs rs) : Rows K H' xs rs := Rows.tup (SameT.of e) h
theorem Rows.at {H : Hp} {xs : List V} {rs : List Ins} (h : Rows K H xs rs) {i : Nat} {r : Ins} (e : rs[i]? = some r) : ∃ a, xs[i]? = some (.ref a) ∧ SqT K H a (insV r) := by
  obtain ⟨v, h1, a, rfl, h2⟩ := Paired_at2 h e
  exact ⟨a, h1, h2⟩
/-- the names' places, in the names' order -/
def entK (kvs : List (Key × V)) (zs : List Str) : List (Key × V) := zs.map fun z => ((Sum.inr z : Key), (valV kvs (Sum.inr z : Key)).getD .non)
def goodEnt (kvs : List (Key × V)) (zs : List Str) (m : Int) : Prop := kvs.length = zs.length ∧ ∀ z ∈ zs, ∃ i, valV kvs (Sum.inr z : Key) = some (.int i) ∧ 0 ≤ i ∧ i < m
theorem valV_entK {kvs : List (Key × V)} : ∀ {zs : List Str} {z : Str}, z ∈ zs → valV (entK kvs zs) (Sum.inr z : Key) = some ((valV kvs (Sum.inr z : Key)).getD .non)
  | y :: zs, z, h => by
    by_cases e : y = z
    · subst e
      exact valV_pos rfl
    · have h2 : z ∈ zs := (List.mem_cons.mp h).resolve_left fun q => e q.symm
      show valV (((Sum.inr y : Key), _) :: entK kvs zs) _ = _
      rw [valV_neg (by intro q; exact e (Sum.inr.inj q)), valV_entK h2]
theorem entK_at {kvs : List (Key × V)} {zs : List Str} {z : Str} {v : V} (h : z ∈ zs) (e : valV kvs (Sum.inr z : Key) = some v) : valV (entK kvs zs) (Sum.inr z : Key) = some v := by
  rw [valV_entK h, e]; rfl
theorem entK_new {kvs : List (Key × V)} : ∀ {zs : List Str} {z : Str} {v : V}, z ∉ zs → putK (entK kvs zs) (Sum.inr z : Key) v = entK kvs zs ++ [((Sum.inr z : Key), v)] := fun {zs z v} h => by
  refine putK_new _ ?_
  have : ∀ zs : List Str, z ∉ zs → valV (entK kvs zs) (Sum.inr z : Key) = none := by
    intro zs
    induction zs with
    | nil => intro _; rfl
    | cons y zs ih =>
      intro h
      show valV (((Sum.inr y : Key), _) :: entK kvs zs) _ = none
      rw [valV_neg (by intro q; exact h (by rw [Sum.inr.inj q]; exact List.mem_cons_self ..))]
      exact ih fun q => h (List.mem_cons_of_mem _ q)
  exact this zs h
/-- a Code stands at p: its program at pg, its entries, its instructions -/
def CdAt (K : PySem.W.Frag) (H : Hp) (p pg : Addr) (kvs : List (Key × V)) (rs : List Ins) : Prop := ∃ dx sa la xs, H p = some (.ins (He.ga K "Code") dx [("owner", .ref pg), ("starts", .ref sa), ("lines", .ref la)]) ∧ H sa = some (.dK kvs) ∧ SqT K H la xs ∧ Rows K H xs rs
theorem CdAt.mono {H H' : Hp} {p pg : Addr} {kvs : List (Key × V)} {rs : List Ins} (e : Same H H') (h : CdAt K H p pg kvs rs) : CdAt K H' p pg kvs rs := by
  obtain ⟨dx, sa, la, xs, h1, h2, h3, h4⟩ := h
  exact ⟨dx, sa, la, xs, e _ _ h1, e _ _ h2, Same.seqT e h3, Rows.mono e h4⟩
abbrev N_Code___init__ : List Str := ["self", "program", "entries", "rows", "length", "names", "at", "name", "row"]
abbrev S_Code___init__ : Scope := defScope (inClass (top 42) 0)
theorem sc_Code___init__ : FnScope N_Code___init__ ["self", "program", "entries", "rows"] (defScope (inClass (top 42) 0)) := ⟨rfl, rfl, rfl, by decide +kernel, rfl, by decide +kernel, by decide +kernel⟩
def f_code_init (K : PySem.W.Frag) (x pr e r : V) (H : Hp) (Q : VK) : Prop := ∃ p dx pg ps ea kvs la xs rs, x = .ref p ∧ H p = some (.ins (He.ga K "Code") dx []) ∧ pr = .ref pg ∧ PgAt K H pg ps ∧ ps.length ≤ 1000 ∧ (ps.map (·.nm)).Nodup ∧ e = .ref ea ∧ H ea = some (.dK kvs) ∧ goodEnt kvs (ps.map (·.nm)) rs.length ∧
  r = .ref la ∧ H la = some (.lst xs) ∧ Rows K H xs rs ∧ 1 ≤ rs.length ∧ rs.length ≤ 9000 ∧ (∀ r ∈ rs, okIns rs.length r = true) ∧ ∀ H', But p H H' → CdAt K H' p pg (entK kvs (ps.map (·.nm))) rs → Q .non H'
theorem ok_code_init (M : Md w K mg) (C_is_row : Cal P w K mg base 1 "is_row" ["value"] (s1 (f_is_row K))) (C_is_instruction : Cal P w K mg base 5 "is_instruction" ["value", "length"] (s2 (f_is_instruction K)))
    (C_are_entries : Cal P w K mg base 2 "are_entries" ["value", "names", "length"] (s3 (f_are_entries K))) (C_Program_names : CalM P w K mg base 1 (He.ga K "Program") "names" ["self"] (s1 (f_names K))) : CalI P w K mg base 6 "Code" (He.ga K "Code") ["self", "program", "entries", "rows"] (s4 (f_code_init K)) := by
  obtain ⟨fd, F⟩ := M.fd_Code___init__
  refine ⟨⟨_, fd, fn_of_d F sc_Code___init__ s4_len (fun cdv A outer s H vs Q E hr h => ?_), M.mk_Code, F.bindsN fun _ _ _ _ _ _ us hl => match us, hl with | [_, _, _, _], _ => rfl⟩, M.gl_Code⟩
  have hu := hu_of hr
  have nd := sc_Code___init__.nd
  obtain ⟨_, _, _, _, rfl, p, dx, pg, ps, ea, kvs, la, xs, rs, rfl, hp, rfl, hpg, hps, hnd, rfl, he, hge, rfl, hl, hr2, hn1, hn2, hok, q⟩ := h
  have hlen := hr2.len
  have hne : (ps.map (·.nm)).length ≤ 1000 := by rw [List.length_map]; exact hps
  generalize hzs : ps.map (·.nm) = zs at *
  refine ⟨_, (pss_cons (ps_if (PW.pt (pw_or (pt_not (pt_val (pe_cl C_is_row (hr.mono (by first | decide | omega)) rfl (pa_cons (pv 3) pa_nil)))) (pw_or1 (pt_not (pt_chain op_le op_le pe_int (pe_callB (call_lenK (K := K) rfl) rfl M.fr_len PySem.boot_len (pa_cons (pv 3) pa_nil)) (pe_globI rfl M.in_MOST_INSTRUCTIONS)))))) (pss_one ps_never) pss_nil) (pss_cons (ps_set (i := 4) nd rfl (Or.inl rfl) (pe_callB (call_lenK (K := K) rfl) rfl M.fr_len PySem.boot_len (pa_cons (pv 3) pa_nil))) (pss_cons (ps_set (i := 5) nd rfl (Or.inl rfl) (pe_me0 C_Program_names (pv 1) (hr.mono (by first | decide | omega)) rfl)) (pss_cons (ps_if (pt_not (pt_val (pe_cl C_are_entries (hr.mono (by first | decide | omega)) rfl (pa_cons (pv 2) (pa_cons (pv 5) (pa_cons (pv 4) pa_nil)))))) (pss_one ps_never) pss_nil) (pss_cons (ps_for PassesOwn.never rfl (pi_range1 rfl M.fr_range (pa_cons (pv 4) pa_nil)) (pg_name (i := 6) nd rfl (Or.inl rfl)) (pss_one (ps_if (pt_not (pt_val (pe_cl C_is_instruction (hr.mono (by first | decide | omega)) rfl (pa_cons (pe_ix (ix_listK (K := K) rfl) (pv 3) (pv 6) (fun _ _ => rfl)) (pa_cons (pv 4) pa_nil))))) (pss_one ps_never) pss_nil))) (pss_cons (ps_fld (pv 0) (pv 1) rfl) (pss_cons (ps_fld (pv 0) (pe_dc (own := [("name", 7)]) (g := gName 7) (tt := tYes) rfl nd (pi_list (pv 5)) (blkOk_by (own := [("name", 7)]) (N := N_Code___init__) (sc := S_Code___init__) (by decide +kernel)) (fun _ _ _ _ _ => (pg_name (i := 7) nd rfl (Or.inl rfl))) (fun _ _ _ _ _ => pts_nil) (fun _ _ _ _ _ => (pv 7)) (fun _ _ _ _ _ => (pe_dget hu (pv 2) (pv 7) (fun _ _ => rfl)))) rfl) (pss_one (ps_fld (pv 0) (pe_callTy (call_tupleK (K := K) rfl) rfl M.fr_tuple (by decide +kernel) (pa_cons (pe_lc (own := [("row", 8)]) (g := gName 8) (tt := tYes) rfl nd (pi_list (pv 3)) (blkOk_by (own := [("row", 8)]) (N := N_Code___init__) (sc := S_Code___init__) (by decide +kernel)) (fun _ _ _ _ _ => (pg_name (i := 8) nd rfl (Or.inl rfl))) (fun _ _ _ _ _ => pts_nil) (fun _ _ _ _ _ => (pe_callTy (call_tupleK (K := K) rfl) rfl M.fr_tuple (by decide +kernel) (pa_cons (pv 8) pa_nil)))) pa_nil)) rfl))))))))), ?_⟩
  walk_at "rd"; walk_at "rc"
  refine .inl ⟨la, _, rfl, .inl (SqL.of hl), fun H1 g1 => ?_⟩
  walk_at "rd"
  refine b_lenL (SqL.of (g1 _ _ hl)) ?_
  walk_at "rd"
  refine a_ite (fun _ => ?_) (fun e => absurd e (by omega))
  walk_at "rd"
  refine a_iteN (fun e => absurd e (by omega)) (fun _ => ?_)
  walk_at "rd"
  refine b_lenL (SqL.of (g1 _ _ hl)) ?_
  walk_at "rd"
  obtain ⟨pdx, ppa, pxs, hpo, hp2⟩ := id hpg
  refine b_meth (g1 _ _ hpo) ((lk_ne (by decide +kernel)).trans lk_none) ?_
  walk_at "rd"; walk_at "rc"
  refine ⟨pg, ps, rfl, PgAt.mono g1 hpg, hps, fun l H2 g2 nl hl2 => ?_⟩
  rw [hzs] at hl2
  have g12 := g1.trans g2
  walk_at "rd"; walk_at "rc"
  refine ⟨ea, kvs, l, zs, _, rfl, g12 _ _ he, rfl, SqL.of hl2, rfl, hge.1, fun z hz => ?_, ?_⟩
  · obtain ⟨i, h1, h2, h3⟩ := hge.2 z hz
    exact ⟨i, h1, h2, by rw [hlen]; exact h3⟩
  walk_at "rd"
  refine ⟨_, rfl, _, rfl, by omega, by omega, ?_⟩
  rw [Int.toNat_natCast]
  refine for_range (lo := 0) (n := xs.length) (fun i σ H3 => Same H H3 ∧ Same H2 H3 ∧ ∃ v6 v7 v8, σ = [some (.ref p), some (.ref pg), some (.ref ea), some (.ref la), some (.int xs.length), some (.ref l), v6, v7, v8]) ⟨g12, Same.refl _, _, _, _, rfl⟩ ?_ ?_
  · rintro i σ H3 hi ⟨g3, g23, v6, v7, v8, rfl⟩
    have hc : ((0 : Int) + (i : Nat)) = ((i : Nat) : Int) := by omega
    rw [hc]
    have hri : rs[i]? = some rs[i] := List.getElem?_eq_getElem (by omega)
    obtain ⟨a, hxi, hsa⟩ := hr2.at hri
    walk_at "rd"
    refine a_ixL (SqL.of (g3 _ _ hl)) (atI_nat hxi) ?_
    walk_at "rd"; walk_at "rc"
    refine ⟨a, _, _, rfl, Same.seqT g3 hsa, rfl, by rw [hlen]; exact hok _ (List.mem_of_getElem? hri), fun H4 g4 => ?_⟩
    walk_at "rd"
    exact ⟨g3.trans g4, g23.trans g4, _, _, _, rfl⟩
  rintro σ H3 ⟨g3, g23, v6, v7, v8, rfl⟩
  walk_at "rd"
  refine b_sfld2 (fs' := [("owner", .ref pg)]) (g3 _ _ hp) M.cl_Code M.na_Code_owner (by decide) rfl ?_
  have b4 : But p H (upd H3 p (.ins (He.ga K "Code") dx [("owner", .ref pg)])) := (But.of g3).trans But.upd
  have npl : l ≠ p := (ne_of_none hp (Same.free g1 nl)).symm
  have hl4 : (upd H3 p (.ins (He.ga K "Code") dx [("owner", .ref pg)])) l = some (.lst (List.map V.str zs)) := by rw [upd_ne npl]; exact g23 _ _ hl2
  have nep : ea ≠ p := ne_of he hp (by intro z; cases z)
  have nlp : la ≠ p := ne_of hl hp (by intro z; cases z)
  have hp4 : (upd H3 p (.ins (He.ga K "Code") dx [("owner", .ref pg)])) p = some (.ins (He.ga K "Code") dx [("owner", .ref pg)]) := upd_same
  generalize upd H3 p (.ins (He.ga K "Code") dx [("owner", .ref pg)]) = H4 at b4 hl4 hp4 ⊢
  walk_at "rd"
  have hlz : (List.map V.str zs).length = zs.length := List.length_map _
  refine ⟨_, rfl, l, rfl, ⟨_, SqL.of hl4⟩, fun D hD => dc_it (walk_list (xs := List.map V.str zs)) (fun i H5 => Same H4 H5 ∧ H5 D = some (.dK (entK kvs (zs.take i)))) ?_ ?_ ?_ ?_⟩
  · exact ⟨Same.new hD, upd_same⟩
  · rintro i H5 _ ⟨g5, _⟩
    exact SqL.of (g5 _ _ hl4)
  · rintro i x H5 _ _ ⟨g5, hd5⟩ ⟨rfl, hx⟩
    rw [List.getElem?_map] at hx
    obtain ⟨z, hz, rfl⟩ := Option.map_eq_some_iff.mp hx
    obtain ⟨k, hk, _, _⟩ := hge.2 z (List.mem_of_getElem? hz)
    walk_at "rd"
    refine ⟨rfl, ?_⟩
    walk_at "rd"
    refine b_dgetS (g5 _ _ (b4 _ _ he nep)) hk ?_
    refine ⟨_, Sum.inr z, rfl, hd5, ?_, ?_⟩
    · unfold entK
      rw [List.length_map, List.length_take]
      exact small1000 (by omega)
    refine ⟨Same.mut g5 hD, ?_⟩
    rw [upd_same, entK_new (nodup_take hnd hz), take_succ_at hz]
    unfold entK
    rw [List.map_append, List.map_cons, hk]
    rfl
  rintro H5 ⟨g5, hd5⟩
  rw [hlz, List.take_length] at hd5
  walk_at "rd"
  refine b_sfld2 (fs' := [("owner", .ref pg), ("starts", .ref D)]) (g5 _ _ hp4) M.cl_Code M.na_Code_starts (by show 1 < 1000; decide) (by rw [putF_ne (by decide +kernel)]; rfl) ?_
  have nDp : D ≠ p := (ne_of_none hp4 hD).symm
  have b6 : But p H (upd H5 p (.ins (He.ga K "Code") dx [("owner", .ref pg), ("starts", .ref D)])) := (b4.trans (But.of g5)).trans But.upd
  have hd6 : (upd H5 p (.ins (He.ga K "Code") dx [("owner", .ref pg), ("starts", .ref D)])) D = some (.dK (entK kvs zs)) := by rw [upd_ne nDp]; exact hd5
  have hp6 : (upd H5 p (.ins (He.ga K "Code") dx [("owner", .ref pg), ("starts", .ref D)])) p = some (.ins (He.ga K "Code") dx [("owner", .ref pg), ("starts", .ref D)]) := upd_same
  generalize upd H5 p (.ins (He.ga K "Code") dx [("owner", .ref pg), ("starts", .ref D)]) = H6 at b6 hd6 hp6 ⊢
  walk_at "rd"
  have hl6 := b6 _ _ hl nlp
  refine ⟨_, rfl, la, rfl, ⟨_, SqL.of hl6⟩, fun E1 hE => lc_list (xs := xs) (fun i H7 => Same H6 H7 ∧ H7 E1 = some (.lst (xs.take i))) ?_ ?_ ?_ ?_⟩
  · exact ⟨Same.new hE, upd_same⟩
  · rintro i H7 _ ⟨g7, _⟩
    exact SqL.of (g7 _ _ hl6)
  · rintro i x H7 hx ⟨g7, h7⟩
    obtain ⟨r, hr3, a, rfl, hsa⟩ := Paired_at hr2 hx
    walk_at "rd"
    refine ⟨rfl, ?_⟩
    walk_at "rd"
    refine b_tupT (((But.sameT hp b6).trans (SameT.of g7)).sq hsa) ?_
    refine ⟨_, h7, ?_, Same.mut g7 hE, ?_⟩
    · rw [List.length_take]
      exact Nat.lt_of_le_of_lt (show min i xs.length ≤ 9000 by omega) (by decide)
    rw [upd_same, take_succ_at hx]
  rintro H7 ⟨g7, h7⟩
  rw [List.take_length] at h7
  walk_at "rd"
  refine b_tupL (SqL.of h7) fun T hT => ?_
  walk_at "rd"
  have g8 := Same.more (o := .tup xs) g7 hT
  have hp8 := g8 _ _ hp6
  have nTp : T ≠ p := (ne_of_none (g7 _ _ hp6) hT).symm
  refine b_sfld2 (fs' := [("owner", .ref pg), ("starts", .ref D), ("lines", .ref T)]) hp8 M.cl_Code M.na_Code_lines (by show 2 < 1000; decide) (by rw [putF_ne (by decide +kernel), putF_ne (by decide +kernel)]; rfl) ?_
  have st9 := SameT.ins (o := .ins (He.ga K "Code") dx [("owner", .ref pg), ("starts", .ref D), ("lines", .ref T)]) hp8
  refine q _ ((b6.trans (But.of g8)).trans But.upd) ⟨dx, D, T, xs, upd_same, ?_, ?_, ?_⟩
  · rw [upd_ne nDp]
    exact g8 _ _ hd6
  · exact st9.sq (SqT.of upd_same)
  · exact Rows.tup (((But.sameT hp b6).trans (SameT.of g8)).trans st9) hr2
abbrev N_Code_program : List Str := ["self"]
abbrev S_Code_program : Scope := defScope (inClass (top 42) 1)
theorem sc_Code_program : FnScope N_Code_program ["self"] (defScope (inClass (top 42) 1)) := ⟨rfl, rfl, rfl, by decide +kernel, rfl, by decide +kernel, by decide +kernel⟩
def f_code_program (K : PySem.W.Frag) (x : V) (H : Hp) (Q : VK) : Prop := ∃ p pg kvs rs, x = .ref p ∧ CdAt K H p pg kvs rs ∧ Q (.ref pg) H
theorem ok_code_program (M : Md w K mg) : CalM P w K mg base 1 (He.ga K "Code") "program" ["self"] (s1 (f_code_program K)) := by
  obtain ⟨fd, F⟩ := M.fd_Code_program
  refine ⟨⟨_, fd, fn_of_d F sc_Code_program s1_len (fun cdv A outer s H vs Q E hr h => ?_), M.me_Code_program, F.bindsN fun _ _ _ _ _ _ us hl => match us, hl with | [_], _ => rfl⟩, M.cl_Code⟩
  have hu := hu_of hr
  have nd := sc_Code_program.nd
  obtain ⟨_, rfl, p, pg, kvs, rs, rfl, ⟨dx, sa, la, xs, hp, hs, hl, hr⟩, q⟩ := h
  refine ⟨_, (pss_one (ps_ret (pe_fldK (K := K) rfl (pv 0) rfl))), ?_⟩
  walk_at "rd"
  exact b_fld hp M.cl_Code M.na_Code_owner lk_hit q
abbrev N_Code_entry : List Str := ["self", "name"]
abbrev S_Code_entry : Scope := defScope (inClass (top 42) 2)
theorem sc_Code_entry : FnScope N_Code_entry ["self", "name"] (defScope (inClass (top 42) 2)) := ⟨rfl, rfl, rfl, by decide +kernel, rfl, by decide +kernel, by decide +kernel⟩
def f_code_entry (K : PySem.W.Frag) (x z : V) (H : Hp) (Q : VK) : Prop := ∃ p pg kvs rs n v, x = .ref p ∧ CdAt K H p pg kvs rs ∧ z = .str n ∧ valV kvs (Sum.inr n : Key) = some v ∧ Q v H
theorem ok_code_entry (M : Md w K mg) : CalM P w K mg base 1 (He.ga K "Code") "entry" ["self", "name"] (s2 (f_code_entry K)) := by
  obtain ⟨fd, F⟩ := M.fd_Code_entry
  refine ⟨⟨_, fd, fn_of_d F sc_Code_entry s2_len (fun cdv A outer s H vs Q E hr h => ?_), M.me_Code_entry, F.bindsN fun _ _ _ _ _ _ us hl => match us, hl with | [_, _], _ => rfl⟩, M.cl_Code⟩
  have hu := hu_of hr
  have nd := sc_Code_entry.nd
  obtain ⟨_, _, rfl, p, pg, kvs, rs, n, v, rfl, ⟨dx, sa, la, xs, hp, hs, hl, hr⟩, rfl, hv, q⟩ := h
  have hlk : List.lookup ("starts" : Str) [(("owner" : Str), V.ref pg), ("starts", .ref sa), ("lines", .ref la)] = some (.ref sa) := (lk_ne (by decide +kernel)).trans lk_hit
  refine ⟨_, (pss_cons (ps_if (PW.pt (pw_or (pt_not (pt_val (pe_callB (call_isiKK (K := K) rfl) rfl M.fr_isinstance (by decide +kernel) (pa_cons (pv 1) (pa_cons (pe_ty (n := "str") rfl M.fr_str (by decide +kernel)) pa_nil))))) (pw_or1 (pt_cmp (pc_dnotin hu (pv 1) (pe_fldK (K := K) rfl (pv 0) rfl)))))) (pss_one ps_never) pss_nil) (pss_one (ps_ret (pe_dget hu (pe_fldK (K := K) rfl (pv 0) rfl) (pv 1) (fun _ _ => rfl))))), ?_⟩
  walk_at "rd"; walk_at "is"; walk_at "rd"
  refine b_fld hp M.cl_Code M.na_Code_starts hlk ?_
  refine b_niS1 hs hv ?_
  walk_at "rd"
  refine b_fld hp M.cl_Code M.na_Code_starts hlk ?_
  walk_at "rd"
  exact b_dgetS hs hv q
abbrev N_Code_rows : List Str := ["self"]
abbrev S_Code_rows : Scope := defScope (inClass (top 42) 3)
theorem sc_Code_rows : FnScope N_Code_rows ["self"] (defScope (inClass (top 42) 3)) := ⟨rfl, rfl, rfl, by decide +kernel, rfl, by decide +kernel, by decide +kernel⟩
def f_code_rows (K : PySem.W.Frag) (x : V) (H : Hp) (Q : VK) : Prop := ∃ p pg kvs rs, x = .ref p ∧ CdAt K H p pg kvs rs ∧ ∀ l xs H', Same H H' → H l = none → H' l = some (.lst xs) → Rows K H' xs rs → Q (.ref l) H'
theorem ok_code_rows (M : Md w K mg) : CalM P w K mg base 1 (He.ga K "Code") "rows" ["self"] (s1 (f_code_rows K)) := by
  obtain ⟨fd, F⟩ := M.fd_Code_rows
  refine ⟨⟨_, fd, fn_of_d F sc_Code_rows s1_len (fun cdv A outer s H vs Q E hr h => ?_), M.me_Code_rows, F.bindsN fun _ _ _ _ _ _ us hl => match us, hl with | [_], _ => rfl⟩, M.cl_Code⟩
  have hu := hu_of hr
  have nd := sc_Code_rows.nd
  obtain ⟨_, rfl, p, pg, kvs, rs, rfl, ⟨dx, sa, la, xs, hp, hs, hl, hr⟩, q⟩ := h
  have hlk : List.lookup ("lines" : Str) [(("owner" : Str), V.ref pg), ("starts", .ref sa), ("lines", .ref la)] = some (.ref la) := (lk_ne (by decide +kernel)).trans ((lk_ne (by decide +kernel)).trans lk_hit)
  refine ⟨_, (pss_one (ps_ret (pe_callTy (call_listK (K := K) rfl) rfl M.fr_list (by decide +kernel) (pa_cons (pe_fldK (K := K) rfl (pv 0) rfl) pa_nil)))), ?_⟩
  walk_at "rd"
  refine b_fld hp M.cl_Code M.na_Code_lines hlk ?_
  walk_at "rd"
  refine b_listT hl fun l hl2 => ?_
  exact q l xs _ (Same.new hl2) hl2 upd_same (Rows.mono (Same.new hl2) hr)
end

end T51

set_option Elab.async false
set_option linter.all false
set_option maxRecDepth 100000
set_option maxHeartbeats 4000000
namespace T51
open PySem PySem.Spec PyProof.Rows L2
local macro_rules | `(tactic| walk_at "rd1") => `(tactic| with_reducible first
  | refine a_seq ?_ | refine a_var rfl ?_ | refine a_c ?_ | refine a_op ?_ | refine a_cons ?_ | refine a_nil ?_ | refine a_cb ?_ | refine a_asg ?_ | refine a_gname ?_ | refine a_ret ?_
  | refine a_if ?_ | refine a_test ?_ | refine a_tB ?_ | refine a_blP ?_ | refine a_and ?_ | refine a_or ?_ | refine a_not ?_ | refine a_andV ?_ | refine a_orV ?_ | refine a_notV ?_ | refine a_ifE ?_
  | refine a_rI0 ?_ | refine a_eqS ?_ | refine a_eqI ?_ | refine a_neS ?_ | refine a_neI ?_ | refine a_call ?_ | refine a_tup ?_ | refine a_lst ?_ | refine a_chain ?_ | refine a_iteT ?_ | refine a_iteF ?_ | refine a_iteNT ?_ | refine a_iteNF ?_
  | refine a_drop ?_ | refine a_next ?_ | refine a_cont ?_ | refine a_break ?_ | refine a_retN ?_ | refine a_ipI ?_ | refine a_aug rfl ?_ | refine a_bm ?_ | refine a_bm0 ?_ | refine b_ord ?_ | refine b_int ?_ | refine b_isN ?_ | refine b_notN ?_ | refine a_un ?_ | refine b_rU ?_ | refine a_fld ?_ | refine a_sfld ?_ | refine a_meth ?_ | refine a_make ?_
  | refine a_dget ?_ | refine a_din ?_ | refine a_dnin ?_ | refine a_dput ?_ | refine a_yes ?_ | refine a_gsub ?_)
local macro_rules | `(tactic| walk_at "is") => `(tactic| with_reducible first
  | refine a_isi_int_int ?_ | refine a_isi_int_bool ?_ | refine a_isi_int_str ?_ | refine a_isi_int_list ?_ | refine a_isi_int_tuple ?_ | refine a_isi_int_dict ?_
  | refine a_isi_bl_int ?_ | refine a_isi_bl_bool ?_ | refine a_isi_bl_str ?_ | refine a_isi_bl_list ?_ | refine a_isi_bl_tuple ?_ | refine a_isi_bl_dict ?_
  | refine a_isi_str_int ?_ | refine a_isi_str_bool ?_ | refine a_isi_str_str ?_ | refine a_isi_str_list ?_ | refine a_isi_str_tuple ?_ | refine a_isi_str_dict ?_
  | refine a_isi_non_int ?_ | refine a_isi_non_bool ?_ | refine a_isi_non_str ?_ | refine a_isi_non_list ?_ | refine a_isi_non_tuple ?_ | refine a_isi_non_dict ?_)
local macro_rules | `(tactic| walk_at "rd") => `(tactic| repeat (walk_at "rd1"))
local macro_rules | `(tactic| walk_at "hp") => `(tactic| first
  | with_reducible assumption
  | with_reducible exact upd_same
  | (with_reducible refine SqL.of ?_; walk_at "hp")
  | (with_reducible refine SqT.of ?_; walk_at "hp")
  | (with_reducible refine Eq.trans (upd_ne ?_) ?_; rotate_left; focus (walk_at "hp"); walk_at "ne")
  | (with_reducible refine (by with_reducible assumption : Same _ _) _ _ ?_; walk_at "hp"))
local macro_rules | `(tactic| walk_at "ne") => `(tactic| first
  | with_reducible assumption
  | with_reducible exact Ne.symm (by with_reducible assumption)
  | (with_reducible refine ne_of_none ?_ (by with_reducible assumption); walk_at "hp")
  | (with_reducible refine Ne.symm (ne_of_none ?_ (by with_reducible assumption)); walk_at "hp"))
local macro_rules | `(tactic| walk_at "rc") => `(tactic| with_reducible first
  | refine a_s1 ?_ | refine a_s2 ?_ | refine a_s3 ?_ | refine a_s4 ?_ | refine a_s0 ?_ | refine a_m1 ?_ | refine a_m2 ?_ | refine a_m3 ?_ | refine a_m4 ?_)
local macro_rules | `(tactic| walk_at "rx1") => `(tactic| with_reducible first
  | refine a_var rfl ?_ | refine a_c ?_ | refine a_op ?_ | refine a_cons ?_ | refine a_nil ?_ | refine a_cb ?_ | refine a_asg ?_ | refine a_gname ?_ | refine a_ret ?_
  | refine a_if ?_ | refine a_test ?_ | refine a_tB ?_ | refine a_blP ?_ | refine a_and ?_ | refine a_or ?_ | refine a_not ?_ | refine a_andV ?_ | refine a_orV ?_ | refine a_notV ?_ | refine a_ifE ?_
  | refine a_rI0 ?_ | refine a_eqS ?_ | refine a_eqI ?_ | refine a_neS ?_ | refine a_neI ?_ | refine a_call ?_ | refine a_tup ?_ | refine a_lst ?_ | refine a_chain ?_ | refine a_iteT ?_ | refine a_iteF ?_ | refine a_iteNT ?_ | refine a_iteNF ?_
  | refine a_drop ?_ | refine a_next ?_ | refine a_cont ?_ | refine a_break ?_ | refine a_retN ?_ | refine a_ipI ?_ | refine a_aug rfl ?_ | refine a_bm ?_ | refine a_bm0 ?_ | refine b_ord ?_ | refine b_int ?_ | refine b_isN ?_ | refine b_notN ?_ | refine a_un ?_ | refine b_rU ?_ | refine a_fld ?_ | refine a_sfld ?_ | refine a_meth ?_ | refine a_make ?_
  | refine a_dget ?_ | refine a_din ?_ | refine a_dnin ?_ | refine a_dput ?_ | refine a_yes ?_ | refine a_gsub ?_)
local macro_rules | `(tactic| walk_at "rx") => `(tactic| repeat (walk_at "rx1"))
/-! ### the mathematics of shortening -/
instance : DecidableEq Ins := fun a b => by
  cases a with
  | mk w x => cases b with
    | mk v y =>
      by_cases h : w = v
      · by_cases h2 : x = y
        · exact .isTrue (by rw [h, h2])
        · exact .isFalse fun e => h2 (by cases e; rfl)
      · exact .isFalse fun e => h (by cases e; rfl)
abbrev PL : List V := tv_PLACED_shortening
def plB (w : Str) : Bool := inV (.str w) tv_PLACED_shortening
def endB (w : Str) : Bool := inV (.str w) tv_ENDING
def copB (w : Str) : Bool := inV (.str w) tv_COPIED
/-- the word at a place -/
def wA (rs : List Ins) (i : Nat) : Str := match rs[i]? with
  | some r => r.w
  | none => ""
/-- the place that a row names -/
def tgt (r : Ins) : Nat := match r.x with
  | some (.int k) => k.toNat
  | _ => 0
def tA (rs : List Ins) (i : Nat) : Nat := match rs[i]? with
  | some r => tgt r
  | none => 0
def Valid (rs : List Ins) : Prop := 1 ≤ rs.length ∧ rs.length ≤ 9000 ∧ ∀ r ∈ rs, okIns rs.length r = true
theorem in_strs {w : Str} {zs : List Str} (h : inV (.str w) (zs.map V.str) = true) : w ∈ zs := by
  unfold inV at h
  obtain ⟨v, hv, e⟩ := List.any_eq_true.mp h
  obtain ⟨y, hy, rfl⟩ := List.mem_map.mp hv
  have : y = w := eq_of_beq e
  rw [← this]
  exact hy
theorem strs_in {w : Str} {zs : List Str} (h : w ∈ zs) : inV (.str w) (zs.map V.str) = true := by
  unfold inV
  exact List.any_eq_true.mpr ⟨.str w, List.mem_map.mpr ⟨w, h, rfl⟩, by show (w == w) = true; exact beq_self_eq_true w⟩
theorem pl_cases {w : Str} (h : plB w = true) : w = "jump" ∨ w = "retry" ∨ w = "any" ∨ w = "keep" := by
  have := in_strs (zs := ["jump", "retry", "any", "keep"]) h
  simpa using this
theorem jump_pl : plB "jump" = true := by decide +kernel
theorem retry_pl : plB "retry" = true := by decide +kernel
/-- a placed row of a right code names a place of it -/
theorem pl_arg {r : Ins} {n : Int} (h : okIns n r = true) (p : plB r.w = true) : ∃ k : Int, r.x = some (.int k) ∧ 0 ≤ k ∧ k < n := by
  obtain ⟨w, x⟩ := r
  have p' : plB w = true := p
  cases x with
  | none =>
    have h' : inV (.str w) tv_ALONE = true := h
    exfalso
    rcases pl_cases p' with rfl | rfl | rfl | rfl <;> exact absurd h' (by decide +kernel)
  | some v =>
    have h' : argOk w v n = true := h
    have e1 : ¬ w = "worth" := by rcases pl_cases p' with rfl | rfl | rfl | rfl <;> decide +kernel
    have e2 : ¬ inV (.str w) tv_NAMED = true := by rcases pl_cases p' with rfl | rfl | rfl | rfl <;> decide +kernel
    have e3 : inV (.str w) tv_PLACED_codes = true := p'
    unfold argOk at h'
    rw [if_neg e1, if_neg e2, if_pos e3] at h'
    cases v with
    | int k =>
      have h3 : (decide ((0 : Int) ≤ k) && decide (k ≤ n - 1)) = true := h'
      simp only [Bool.and_eq_true, decide_eq_true_eq] at h3
      exact ⟨k, rfl, h3.1, by omega⟩
    | _ => cases h'
theorem pl_ok {w : Str} {k : Nat} {n : Int} (p : plB w = true) (h : (k : Int) < n) : okIns n ⟨w, some (.int k)⟩ = true := by
  show argOk w (.int k) n = true
  have e1 : ¬ w = "worth" := by rcases pl_cases p with rfl | rfl | rfl | rfl <;> decide +kernel
  have e2 : ¬ inV (.str w) tv_NAMED = true := by rcases pl_cases p with rfl | rfl | rfl | rfl <;> decide +kernel
  have e3 : inV (.str w) tv_PLACED_codes = true := p
  unfold argOk
  rw [if_neg e1, if_neg e2, if_pos e3]
  show (decide ((0 : Int) ≤ k) && decide ((k : Int) ≤ n - 1)) = true
  rw [decide_eq_true (show (0 : Int) ≤ k by omega), decide_eq_true (show (k : Int) ≤ n - 1 by omega)]
  rfl
theorem tgt_lt {r : Ins} {n : Nat} (h : okIns n r = true) (p : plB r.w = true) : tgt r < n ∧ r = ⟨r.w, some (.int (tgt r : Nat))⟩ := by
  obtain ⟨k, hk, h0, h1⟩ := pl_arg h p
  have e : tgt r = k.toNat := by unfold tgt; rw [hk]
  rw [e]
  refine ⟨by omega, ?_⟩
  obtain ⟨w, x⟩ := r
  have hk' : x = some (.int k) := hk
  rw [hk', show ((k.toNat : Nat) : Int) = k by omega]
/-- a row that is not placed is right for every length -/
theorem ok_other {r : Ins} {n m : Int} (h : okIns n r = true) (p : plB r.w = false) : okIns m r = true := by
  obtain ⟨w, x⟩ := r
  cases x with
  | none => exact h
  | some v =>
    have h' : argOk w v n = true := h
    have e3 : ¬ inV (.str w) tv_PLACED_codes = true := by
      intro q
      have : plB w = true := q
      rw [show plB w = false from p] at this
      cases this
    show argOk w v m = true
    unfold argOk at h' ⊢
    rw [if_neg e3] at h' ⊢
    exact h'
theorem wA_at {rs : List Ins} {i : Nat} {r : Ins} (e : rs[i]? = some r) : wA rs i = r.w := by unfold wA; rw [e]
theorem tA_at {rs : List Ins} {i : Nat} {r : Ins} (e : rs[i]? = some r) : tA rs i = tgt r := by unfold tA; rw [e]
/-! jumps -/
def isJ (rs : List Ins) (i : Nat) : Prop := wA rs i = "jump"
def itJ (rs : List Ins) (k : Nat) : Nat → Nat
  | 0 => k
  | m + 1 => tA rs (itJ rs k m)
theorem itJ_add (rs : List Ins) (k m j : Nat) : itJ rs k (m + j) = itJ rs (itJ rs k m) j := by
  induction j with
  | zero => rfl
  | succ j ih => show tA rs (itJ rs k (m + j)) = tA rs (itJ rs (itJ rs k m) j); rw [ih]
theorem isJ_lt {rs : List Ins} {i : Nat} (h : isJ rs i) : i < rs.length := by
  rcases Nat.lt_or_ge i rs.length with h1 | h1
  · exact h1
  · exfalso
    unfold isJ wA at h
    rw [List.getElem?_eq_none h1] at h
    exact absurd h (by decide +kernel)
theorem isJ_next {rs : List Ins} (hv : Valid rs) {i : Nat} (h : isJ rs i) : tA rs i < rs.length := by
  have hi := isJ_lt h
  have e : rs[i]? = some rs[i] := List.getElem?_eq_getElem hi
  unfold isJ at h
  rw [wA_at e] at h
  rw [tA_at e]
  exact (tgt_lt (hv.2.2 _ (List.getElem_mem hi)) (by rw [h]; exact jump_pl)).1
def Endless (rs : List Ins) (k : Nat) : Prop := ∀ j, isJ rs (itJ rs k j)
/-- where the jumps from k end: e -/
def Lands (rs : List Ins) (k e : Nat) : Prop := (∃ m, (∀ j, j < m → isJ rs (itJ rs k j)) ∧ ¬ isJ rs (itJ rs k m) ∧ e = itJ rs k m) ∨ (Endless rs k ∧ e = k)
theorem lands_ex (rs : List Ins) (k : Nat) : ∃ e, Lands rs k e := by
  by_cases h : Endless rs k
  · exact ⟨k, .inr ⟨h, rfl⟩⟩
  · have h2 : ∃ m, ¬ isJ rs (itJ rs k m) := Classical.byContradiction fun c => h fun j => Classical.byContradiction fun d => c ⟨j, d⟩
    obtain ⟨m, hm⟩ := h2
    have key : ∀ m, ¬ isJ rs (itJ rs k m) → ∃ m, (∀ j, j < m → isJ rs (itJ rs k j)) ∧ ¬ isJ rs (itJ rs k m) := by
      intro m
      induction m using Nat.strongRecOn with
      | ind m ih =>
        intro hm
        by_cases h3 : ∀ j, j < m → isJ rs (itJ rs k j)
        · exact ⟨m, h3, hm⟩
        · have : ∃ j, j < m ∧ ¬ isJ rs (itJ rs k j) := Classical.byContradiction fun c => h3 fun j hj => Classical.byContradiction fun d => c ⟨j, hj, d⟩
          obtain ⟨j, hj, hn⟩ := this
          exact ih j hj hn
    obtain ⟨m, h1, h2⟩ := key m hm
    exact ⟨_, .inl ⟨m, h1, h2, rfl⟩⟩
theorem lands_one {rs : List Ins} {k e e' : Nat} (h : Lands rs k e) (h' : Lands rs k e') : e = e' := by
  rcases h with ⟨m, h1, h2, rfl⟩ | ⟨h1, rfl⟩
  · rcases h' with ⟨m', h1', h2', rfl⟩ | ⟨h1', rfl⟩
    · rcases Nat.lt_trichotomy m m' with h | h | h
      · exact absurd (h1' m h) h2
      · rw [h]
      · exact absurd (h1 m' h) h2'
    · exact absurd (h1' m) h2
  · rcases h' with ⟨m', h1', h2', rfl⟩ | ⟨h1', rfl⟩
    · exact absurd (h1 m') h2'
    · rfl
noncomputable def landF (rs : List Ins) (k : Nat) : Nat := (lands_ex rs k).choose
theorem landF_spec (rs : List Ins) (k : Nat) : Lands rs k (landF rs k) := (lands_ex rs k).choose_spec
theorem landF_eq {rs : List Ins} {k e : Nat} (h : Lands rs k e) : landF rs k = e := lands_one (landF_spec rs k) h
theorem itJ_lt {rs : List Ins} (hv : Valid rs) {k : Nat} (hk : k < rs.length) : ∀ m, (∀ j, j < m → isJ rs (itJ rs k j)) → itJ rs k m < rs.length
  | 0, _ => hk
  | m + 1, h => isJ_next hv (h m (Nat.lt_succ_self m))
theorem lands_lt {rs : List Ins} (hv : Valid rs) {k e : Nat} (hk : k < rs.length) (h : Lands rs k e) : e < rs.length := by
  rcases h with ⟨m, h1, h2, rfl⟩ | ⟨_, rfl⟩
  · exact itJ_lt hv hk m h1
  · exact hk
theorem endless_next {rs : List Ins} {k : Nat} (h : Endless rs k) : Endless rs (tA rs k) := fun j => by
  have := h (1 + j)
  rw [itJ_add] at this
  exact this
/-! straightening -/
noncomputable def strF (rs : List Ins) (i : Nat) (r : Ins) : Ins :=
  if r.w = "jump" ∧ copB (wA rs (landF rs (tgt r))) = true then (match rs[landF rs (tgt r)]? with | some q => q | none => r)
  else if r.w = "retry" ∧ i + 1 < rs.length ∧ wA rs (i + 1) = "fail" then ⟨"jump", some (.int (landF rs (tgt r) : Nat))⟩
  else ⟨r.w, some (.int (landF rs (tgt r) : Nat))⟩
noncomputable def oneF (rs : List Ins) (i : Nat) (r : Ins) : Ins := if plB r.w = true then strF rs i r else r
noncomputable def straightF (rs : List Ins) : List Ins := rs.mapIdx fun i r => oneF rs i r
theorem straightF_len (rs : List Ins) : (straightF rs).length = rs.length := by unfold straightF; rw [List.length_mapIdx]
theorem straightF_at {rs : List Ins} {i : Nat} {r : Ins} (e : rs[i]? = some r) : (straightF rs)[i]? = some (oneF rs i r) := by
  unfold straightF
  rw [List.getElem?_mapIdx, e]
  rfl
theorem cop_npl {w : Str} (h : copB w = true) : plB w = false ∧ ¬ w = "retry" ∧ ¬ w = "jump" := by
  have := in_strs (zs := ["fail", "back", "fall", "yield"]) h
  simp at this
  rcases this with rfl | rfl | rfl | rfl <;> exact ⟨by decide +kernel, by decide +kernel, by decide +kernel⟩
theorem straight_valid {rs : List Ins} (hv : Valid rs) : Valid (straightF rs) := by
  refine ⟨by rw [straightF_len]; exact hv.1, by rw [straightF_len]; exact hv.2.1, fun r hr => ?_⟩
  obtain ⟨i, hi, e⟩ := List.mem_iff_getElem.mp hr
  rw [straightF_len] at hi
  have e0 : rs[i]? = some rs[i] := List.getElem?_eq_getElem hi
  have e1 := straightF_at e0
  rw [List.getElem?_eq_getElem (by rw [straightF_len]; exact hi), e] at e1
  have e2 : r = oneF rs i rs[i] := Option.some.inj e1
  rw [straightF_len, e2]
  have ho := hv.2.2 _ (List.getElem_mem hi)
  unfold oneF
  by_cases p : plB rs[i].w = true
  · rw [if_pos p]
    have hl := lands_lt hv (tgt_lt ho p).1 (landF_spec rs (tgt rs[i]))
    unfold strF
    by_cases c1 : rs[i].w = "jump" ∧ copB (wA rs (landF rs (tgt rs[i]))) = true
    · rw [if_pos c1, List.getElem?_eq_getElem hl]
      exact hv.2.2 _ (List.getElem_mem hl)
    · rw [if_neg c1]
      by_cases c2 : rs[i].w = "retry" ∧ i + 1 < rs.length ∧ wA rs (i + 1) = "fail"
      · rw [if_pos c2]
        exact pl_ok jump_pl (by omega)
      · rw [if_neg c2]
        exact pl_ok p (by omega)
  · rw [if_neg p]
    exact ho
/-! a weight that every change of a word lowers -/
def wt (r : Ins) : Nat := (if plB r.w = true then 1 else 0) + (if r.w = "retry" then 1 else 0)
def wtS (rs : List Ins) : Nat := (rs.map wt).sum
theorem wt_le (r : Ins) : wt r ≤ 2 := by unfold wt; split <;> split <;> omega
theorem wtS_le : ∀ rs : List Ins, wtS rs ≤ 2 * rs.length
  | [] => Nat.le_refl _
  | r :: rs => by
    have h1 := wt_le r
    have h2 := wtS_le rs
    show wt r + wtS rs ≤ 2 * (rs.length + 1)
    omega
theorem one_wt {rs : List Ins} {i : Nat} {r : Ins} (hv : Valid rs) (e : rs[i]? = some r) : wt (oneF rs i r) ≤ wt r ∧ (wt (oneF rs i r) = wt r → (oneF rs i r).w = r.w ∧ (plB r.w = true → oneF rs i r = ⟨r.w, some (.int (landF rs (tgt r) : Nat))⟩ ∧
    ¬ (r.w = "jump" ∧ copB (wA rs (landF rs (tgt r))) = true) ∧ ¬ (r.w = "retry" ∧ i + 1 < rs.length ∧ wA rs (i + 1) = "fail"))) := by
  unfold oneF
  by_cases p : plB r.w = true
  · rw [if_pos p]
    have hl := lands_lt hv (tgt_lt (hv.2.2 _ (List.mem_of_getElem? e)) p).1 (landF_spec rs (tgt r))
    unfold strF
    by_cases c1 : r.w = "jump" ∧ copB (wA rs (landF rs (tgt r))) = true
    · rw [if_pos c1, List.getElem?_eq_getElem hl]
      have hc := c1.2
      rw [wA_at (List.getElem?_eq_getElem hl)] at hc
      obtain ⟨n1, n2, _⟩ := cop_npl hc
      have w0 : wt rs[landF rs (tgt r)] = 0 := by
        unfold wt
        rw [if_neg n2, if_neg (by rw [n1]; exact Bool.false_ne_true)]
      have w1 : wt r = 1 := by
        unfold wt
        rw [if_pos p, if_neg (by rw [c1.1]; decide +kernel)]
      show wt rs[landF rs (tgt r)] ≤ wt r ∧ (wt rs[landF rs (tgt r)] = wt r → _)
      rw [w0, w1]
      exact ⟨by omega, fun z => by omega⟩
    · rw [if_neg c1]
      by_cases c2 : r.w = "retry" ∧ i + 1 < rs.length ∧ wA rs (i + 1) = "fail"
      · rw [if_pos c2]
        have w0 : wt ⟨"jump", some (.int (landF rs (tgt r) : Nat))⟩ = 1 := by
          unfold wt
          rw [if_pos jump_pl, if_neg (show ¬ ("jump" : Str) = "retry" by decide +kernel)]
        have w1 : wt r = 2 := by
          unfold wt
          rw [if_pos p, if_pos c2.1]
        rw [w0, w1]
        exact ⟨by omega, fun z => by omega⟩
      · rw [if_neg c2]
        exact ⟨Nat.le_refl _, fun _ => ⟨rfl, fun _ => ⟨rfl, c1, c2⟩⟩⟩
  · rw [if_neg p]
    exact ⟨Nat.le_refl _, fun _ => ⟨rfl, fun q => absurd q p⟩⟩
theorem sum_le {f g : Nat → Nat} : ∀ n : Nat, (∀ i, i < n → f i ≤ g i) → ((List.range n).map f).sum ≤ ((List.range n).map g).sum ∧ (((List.range n).map f).sum = ((List.range n).map g).sum → ∀ i, i < n → f i = g i)
  | 0, _ => ⟨Nat.le_refl _, fun _ i hi => absurd hi (Nat.not_lt_zero _)⟩
  | n + 1, h => by
    obtain ⟨h1, h2⟩ := sum_le n fun i hi => h i (Nat.lt_succ_of_lt hi)
    have h3 := h n (Nat.lt_succ_self n)
    rw [List.range_succ, List.map_append, List.map_append, List.sum_append, List.sum_append]
    simp only [List.map_cons, List.map_nil, List.sum_cons, List.sum_nil, Nat.add_zero]
    refine ⟨by omega, fun e i hi => ?_⟩
    have e1 : ((List.range n).map f).sum = ((List.range n).map g).sum := by omega
    rcases Nat.lt_or_eq_of_le (Nat.le_of_lt_succ hi) with hlt | rfl
    · exact h2 e1 i hlt
    · omega
theorem wtS_range (rs : List Ins) : wtS rs = ((List.range rs.length).map fun i => wt (rs.getD i ⟨"", none⟩)).sum := by
  unfold wtS
  congr 1
  apply List.ext_getElem?
  intro i
  rw [List.getElem?_map, List.getElem?_map]
  by_cases hi : i < rs.length
  · rw [List.getElem?_eq_getElem hi, List.getElem?_eq_getElem (by simpa using hi)]
    simp [hi]
  · rw [List.getElem?_eq_none (by omega), List.getElem?_eq_none (by simp; omega)]
    rfl
theorem wtS_straight {rs : List Ins} (hv : Valid rs) : wtS (straightF rs) ≤ wtS rs ∧ (wtS (straightF rs) = wtS rs → ∀ i r, rs[i]? = some r → wt (oneF rs i r) = wt r) := by
  have key := sum_le (f := fun i => wt ((straightF rs).getD i ⟨"", none⟩)) (g := fun i => wt (rs.getD i ⟨"", none⟩)) rs.length fun i hi => by
    have e0 : rs[i]? = some rs[i] := List.getElem?_eq_getElem hi
    have e1 := straightF_at e0
    show wt ((straightF rs).getD i ⟨"", none⟩) ≤ wt (rs.getD i ⟨"", none⟩)
    rw [List.getD_eq_getElem?_getD, List.getD_eq_getElem?_getD, e0, e1]
    exact (one_wt hv e0).1
  rw [wtS_range rs, wtS_range (straightF rs), straightF_len]
  refine ⟨key.1, fun e i r er => ?_⟩
  have hi : i < rs.length := (List.getElem?_eq_some_iff.mp er).1
  have k2 := key.2 e i hi
  have k3 : wt ((straightF rs).getD i ⟨"", none⟩) = wt (rs.getD i ⟨"", none⟩) := k2
  rw [List.getD_eq_getElem?_getD, List.getD_eq_getElem?_getD, er, straightF_at er] at k3
  exact k3
/-- where no word changes, a second straightening changes nothing -/
theorem straight_twice {rs : List Ins} (hv : Valid rs) (he : wtS (straightF rs) = wtS rs) : straightF (straightF rs) = straightF rs := by
  have hall := (wtS_straight hv).2 he
  have hone : ∀ i r, rs[i]? = some r → _ := fun i r e => (one_wt hv e).2 (hall i r e)
  have hw : ∀ i, wA (straightF rs) i = wA rs i := fun i => by
    by_cases hi : i < rs.length
    · have e0 : rs[i]? = some rs[i] := List.getElem?_eq_getElem hi
      rw [wA_at e0, wA_at (straightF_at e0)]
      exact (hone i _ e0).1
    · have n1 : rs[i]? = none := List.getElem?_eq_none (by omega)
      have n2 : (straightF rs)[i]? = none := List.getElem?_eq_none (by rw [straightF_len]; omega)
      unfold wA
      rw [n1, n2]
  have hJ : ∀ i, isJ (straightF rs) i ↔ isJ rs i := fun i => by unfold isJ; rw [hw]
  have htgt : ∀ i r, rs[i]? = some r → plB r.w = true → tgt (oneF rs i r) = landF rs (tgt r) := fun i r e p => by
    rw [((hone i r e).2 p).1]
    show ((landF rs (tgt r) : Nat) : Int).toNat = _
    omega
  have hend : ∀ k, Endless rs k → Endless (straightF rs) k := fun k hk => by
    have it : ∀ j, itJ (straightF rs) k j = itJ rs k j := by
      intro j
      induction j with
      | zero => rfl
      | succ j ih =>
        show tA (straightF rs) (itJ (straightF rs) k j) = tA rs (itJ rs k j)
        rw [ih]
        have hj := hk j
        have hlt := isJ_lt hj
        have e0 : rs[itJ rs k j]? = some rs[itJ rs k j] := List.getElem?_eq_getElem hlt
        have hwj : rs[itJ rs k j].w = "jump" := by unfold isJ at hj; rw [wA_at e0] at hj; exact hj
        rw [tA_at e0, tA_at (straightF_at e0), htgt _ _ e0 (by rw [hwj]; exact jump_pl)]
        refine landF_eq (.inr ⟨fun m => ?_, rfl⟩)
        have := hk (j + 1 + m)
        rw [itJ_add] at this
        have e5 : itJ rs k (j + 1) = tgt rs[itJ rs k j] := by show tA rs (itJ rs k j) = _; rw [tA_at e0]
        rw [e5] at this
        exact this
    intro j
    rw [it j]
    exact (hJ _).mpr (hk j)
  have hland : ∀ k, landF (straightF rs) (landF rs k) = landF rs k := fun k => by
    rcases landF_spec rs k with ⟨m, _, h2, h3⟩ | ⟨h1, h3⟩
    · refine landF_eq (.inl ⟨0, fun j hj => absurd hj (Nat.not_lt_zero _), ?_, rfl⟩)
      show ¬ isJ (straightF rs) (landF rs k)
      rw [h3]
      exact fun q => h2 ((hJ _).mp q)
    · refine landF_eq (.inr ⟨?_, rfl⟩)
      rw [h3]
      exact hend k h1
  apply List.ext_getElem?
  intro i
  by_cases hi : i < rs.length
  · have e0 : rs[i]? = some rs[i] := List.getElem?_eq_getElem hi
    have e1 := straightF_at e0
    rw [straightF_at e1, e1]
    congr 1
    have h1 := hone i _ e0
    by_cases p : plB rs[i].w = true
    · obtain ⟨h2, h3, h4⟩ := h1.2 p
      have ht := htgt i _ e0 p
      show oneF (straightF rs) i (oneF rs i rs[i]) = oneF rs i rs[i]
      have hw1 : (oneF rs i rs[i]).w = rs[i].w := h1.1
      unfold oneF
      rw [if_pos p]
      have p2 : plB (strF rs i rs[i]).w = true := by
        have : strF rs i rs[i] = oneF rs i rs[i] := by unfold oneF; rw [if_pos p]
        rw [this, hw1]; exact p
      rw [if_pos p2]
      have e9 : strF rs i rs[i] = ⟨rs[i].w, some (.int (landF rs (tgt rs[i]) : Nat))⟩ := by
        have : strF rs i rs[i] = oneF rs i rs[i] := by unfold oneF; rw [if_pos p]
        rw [this]; exact h2
      rw [e9]
      unfold strF
      have tg : tgt ⟨rs[i].w, some (.int (landF rs (tgt rs[i]) : Nat))⟩ = landF rs (tgt rs[i]) := by
        show ((landF rs (tgt rs[i]) : Nat) : Int).toNat = _
        omega
      rw [tg, hland, straightF_len, hw, hw]
      rw [if_neg h3, if_neg h4]
    · have e9 : oneF rs i rs[i] = rs[i] := by unfold oneF; rw [if_neg p]
      rw [e9]
      unfold oneF
      rw [if_neg p]
  · rw [List.getElem?_eq_none (by rw [straightF_len, straightF_len]; omega), List.getElem?_eq_none (by rw [straightF_len]; omega)]

end T51

set_option Elab.async false
set_option linter.all false
set_option maxRecDepth 100000
set_option maxHeartbeats 4000000
namespace T51
open PySem PySem.Spec PyProof.Rows L2
local macro_rules | `(tactic| walk_at "rd1") => `(tactic| with_reducible first
  | refine a_seq ?_ | refine a_var rfl ?_ | refine a_c ?_ | refine a_op ?_ | refine a_cons ?_ | refine a_nil ?_ | refine a_cb ?_ | refine a_asg ?_ | refine a_gname ?_ | refine a_ret ?_
  | refine a_if ?_ | refine a_test ?_ | refine a_tB ?_ | refine a_blP ?_ | refine a_and ?_ | refine a_or ?_ | refine a_not ?_ | refine a_andV ?_ | refine a_orV ?_ | refine a_notV ?_ | refine a_ifE ?_
  | refine a_rI0 ?_ | refine a_eqS ?_ | refine a_eqI ?_ | refine a_neS ?_ | refine a_neI ?_ | refine a_call ?_ | refine a_tup ?_ | refine a_lst ?_ | refine a_chain ?_ | refine a_iteT ?_ | refine a_iteF ?_ | refine a_iteNT ?_ | refine a_iteNF ?_
  | refine a_drop ?_ | refine a_next ?_ | refine a_cont ?_ | refine a_break ?_ | refine a_retN ?_ | refine a_ipI ?_ | refine a_aug rfl ?_ | refine a_bm ?_ | refine a_bm0 ?_ | refine b_ord ?_ | refine b_int ?_ | refine b_isN ?_ | refine b_notN ?_ | refine a_un ?_ | refine b_rU ?_ | refine a_fld ?_ | refine a_sfld ?_ | refine a_meth ?_ | refine a_make ?_
  | refine a_dget ?_ | refine a_din ?_ | refine a_dnin ?_ | refine a_dput ?_ | refine a_yes ?_ | refine a_gsub ?_)
local macro_rules | `(tactic| walk_at "is") => `(tactic| with_reducible first
  | refine a_isi_int_int ?_ | refine a_isi_int_bool ?_ | refine a_isi_int_str ?_ | refine a_isi_int_list ?_ | refine a_isi_int_tuple ?_ | refine a_isi_int_dict ?_
  | refine a_isi_bl_int ?_ | refine a_isi_bl_bool ?_ | refine a_isi_bl_str ?_ | refine a_isi_bl_list ?_ | refine a_isi_bl_tuple ?_ | refine a_isi_bl_dict ?_
  | refine a_isi_str_int ?_ | refine a_isi_str_bool ?_ | refine a_isi_str_str ?_ | refine a_isi_str_list ?_ | refine a_isi_str_tuple ?_ | refine a_isi_str_dict ?_
  | refine a_isi_non_int ?_ | refine a_isi_non_bool ?_ | refine a_isi_non_str ?_ | refine a_isi_non_list ?_ | refine a_isi_non_tuple ?_ | refine a_isi_non_dict ?_)
local macro_rules | `(tactic| walk_at "rd") => `(tactic| repeat (walk_at "rd1"))
local macro_rules | `(tactic| walk_at "hp") => `(tactic| first
  | with_reducible assumption
  | with_reducible exact upd_same
  | (with_reducible refine SqL.of ?_; walk_at "hp")
  | (with_reducible refine SqT.of ?_; walk_at "hp")
  | (with_reducible refine Eq.trans (upd_ne ?_) ?_; rotate_left; focus (walk_at "hp"); walk_at "ne")
  | (with_reducible refine (by with_reducible assumption : Same _ _) _ _ ?_; walk_at "hp"))
local macro_rules | `(tactic| walk_at "ne") => `(tactic| first
  | with_reducible assumption
  | with_reducible exact Ne.symm (by with_reducible assumption)
  | (with_reducible refine ne_of_none ?_ (by with_reducible assumption); walk_at "hp")
  | (with_reducible refine Ne.symm (ne_of_none ?_ (by with_reducible assumption)); walk_at "hp"))
local macro_rules | `(tactic| walk_at "rc") => `(tactic| with_reducible first
  | refine a_s1 ?_ | refine a_s2 ?_ | refine a_s3 ?_ | refine a_s4 ?_ | refine a_s0 ?_ | refine a_m1 ?_ | refine a_m2 ?_ | refine a_m3 ?_ | refine a_m4 ?_)
local macro_rules | `(tactic| walk_at "rx1") => `(tactic| with_reducible first
  | refine a_var rfl ?_ | refine a_c ?_ | refine a_op ?_ | refine a_cons ?_ | refine a_nil ?_ | refine a_cb ?_ | refine a_asg ?_ | refine a_gname ?_ | refine a_ret ?_
  | refine a_if ?_ | refine a_test ?_ | refine a_tB ?_ | refine a_blP ?_ | refine a_and ?_ | refine a_or ?_ | refine a_not ?_ | refine a_andV ?_ | refine a_orV ?_ | refine a_notV ?_ | refine a_ifE ?_
  | refine a_rI0 ?_ | refine a_eqS ?_ | refine a_eqI ?_ | refine a_neS ?_ | refine a_neI ?_ | refine a_call ?_ | refine a_tup ?_ | refine a_lst ?_ | refine a_chain ?_ | refine a_iteT ?_ | refine a_iteF ?_ | refine a_iteNT ?_ | refine a_iteNF ?_
  | refine a_drop ?_ | refine a_next ?_ | refine a_cont ?_ | refine a_break ?_ | refine a_retN ?_ | refine a_ipI ?_ | refine a_aug rfl ?_ | refine a_bm ?_ | refine a_bm0 ?_ | refine b_ord ?_ | refine b_int ?_ | refine b_isN ?_ | refine b_notN ?_ | refine a_un ?_ | refine b_rU ?_ | refine a_fld ?_ | refine a_sfld ?_ | refine a_meth ?_ | refine a_make ?_
  | refine a_dget ?_ | refine a_din ?_ | refine a_dnin ?_ | refine a_dput ?_ | refine a_yes ?_ | refine a_gsub ?_)
local macro_rules | `(tactic| walk_at "rx") => `(tactic| repeat (walk_at "rx1"))
section
variable {P : Program} {w : World} {K : PySem.W.Frag} {mg : Str → Option Value} {base : Heap}
/-- a list of rows stands at la -/
def LnAt (K : PySem.W.Frag) (H : Hp) (v : V) (rs : List Ins) : Prop := ∃ la xs, v = .ref la ∧ H la = some (.lst xs) ∧ Rows K H xs rs
theorem LnAt.mono {H H' : Hp} {v : V} {rs : List Ins} (e : Same H H') (h : LnAt K H v rs) : LnAt K H' v rs := by
  obtain ⟨la, xs, h1, h2, h3⟩ := h
  exact ⟨la, xs, h1, e _ _ h2, Rows.mono e h3⟩
theorem wA_of {rs : List Ins} {i : Nat} (h : i < rs.length) : ∃ r, rs[i]? = some r ∧ r ∈ rs ∧ wA rs i = r.w ∧ tA rs i = tgt r := ⟨_, List.getElem?_eq_getElem h, List.getElem_mem h, wA_at (List.getElem?_eq_getElem h), tA_at (List.getElem?_eq_getElem h)⟩
theorem insV_w (r : Ins) : (insV r)[0]? = some (.str r.w) := by
  obtain ⟨w, x⟩ := r
  cases x <;> rfl
theorem atI0 {r : Ins} : atI (insV r) 0 = some (.str r.w) := atI_nat (insV_w r)
theorem insV_x {r : Ins} {v : V} (h : r.x = some v) : (insV r) = [.str r.w, v] := by
  obtain ⟨w, x⟩ := r
  have h' : x = some v := h
  subst h'
  rfl
theorem atI1 {r : Ins} {v : V} (h : r.x = some v) : atI (insV r) 1 = some v := by
  rw [insV_x h]; rfl
theorem pl_x {rs : List Ins} (hv : Valid rs) {r : Ins} (hr : r ∈ rs) (p : plB r.w = true) : r.x = some (.int (tgt r : Nat)) ∧ tgt r < rs.length := by
  obtain ⟨h1, h2⟩ := tgt_lt (hv.2.2 r hr) p
  exact ⟨by rw [h2]; show some _ = some _; congr 2, h1⟩
theorem nodup_lt : ∀ (n : Nat) (l : List Nat), l.Nodup → (∀ x ∈ l, x < n) → l.length ≤ n
  | 0, l, _, h => by
    cases l with
    | nil => exact Nat.le_refl _
    | cons a l => exact absurd (h a (List.mem_cons_self ..)) (Nat.not_lt_zero _)
  | n + 1, l, hn, h => by
    by_cases hm : n ∈ l
    · have h1 := nodup_lt n (l.erase n) (hn.erase n) fun x hx => by
        obtain ⟨h2, h3⟩ := (List.Nodup.mem_erase_iff hn).mp hx
        have := h x h3
        omega
      rw [List.length_erase_of_mem hm] at h1
      omega
    · have h1 := nodup_lt n l hn fun x hx => by
        have := h x hx
        have : x ≠ n := fun e => hm (e ▸ hx)
        omega
      omega
/-- a dict of places that were seen -/
def seenK (ps : List Nat) : List (Key × V) := ps.map fun (p : Nat) => ((Sum.inl ((p : Nat) : Int) : Key), V.bl true)
theorem seenK_in : ∀ {ps : List Nat} {p : Nat}, p ∈ ps → valV (seenK ps) (Sum.inl (p : Int) : Key) = some (.bl true)
  | y :: ps, p, h => by
    by_cases e : y = p
    · subst e; exact valV_pos rfl
    · have h2 : p ∈ ps := (List.mem_cons.mp h).resolve_left fun q => e q.symm
      show valV (((Sum.inl (y : Int) : Key), _) :: seenK ps) _ = _
      rw [valV_neg (by intro q; have := Sum.inl.inj q; omega), seenK_in h2]
theorem seenK_out : ∀ {ps : List Nat} {p : Nat}, p ∉ ps → valV (seenK ps) (Sum.inl (p : Int) : Key) = none
  | [], p, _ => rfl
  | y :: ps, p, h => by
    show valV (((Sum.inl (y : Int) : Key), _) :: seenK ps) _ = _
    rw [valV_neg (by intro q; have := Sum.inl.inj q; exact h (by rw [show p = y by omega]; exact List.mem_cons_self ..)), seenK_out fun q => h (List.mem_cons_of_mem _ q)]
theorem seenK_put {ps : List Nat} {p : Nat} (h : p ∉ ps) : putK (seenK ps) (Sum.inl (p : Int) : Key) (.bl true) = seenK (ps ++ [p]) := by
  rw [putK_new _ (seenK_out h)]
  unfold seenK
  rw [List.map_append]
  rfl
theorem endless_cycle {rs : List Ins} {k j m : Nat} (hj : j < m) (h : ∀ i, i ≤ m → isJ rs (itJ rs k i)) (e : itJ rs k j = itJ rs k m) : Endless rs k := fun n => by
  induction n using Nat.strongRecOn with
  | ind n ih =>
    rcases Nat.lt_or_ge m n with h1 | h1
    · have h2 : itJ rs k n = itJ rs k (j + (n - m)) := by
        rw [itJ_add, e, ← itJ_add, show m + (n - m) = n by omega]
      rw [h2]
      exact ih _ (by omega)
    · exact h n h1
def itL (rs : List Ins) (k m : Nat) : List Nat := (List.range m).map (itJ rs k)
theorem itL_mem {rs : List Ins} {k m p : Nat} : p ∈ itL rs k m ↔ ∃ j, j < m ∧ itJ rs k j = p := by
  unfold itL
  rw [List.mem_map]
  constructor
  · rintro ⟨j, h1, h2⟩; exact ⟨j, List.mem_range.mp h1, h2⟩
  · rintro ⟨j, h1, h2⟩; exact ⟨j, List.mem_range.mpr h1, h2⟩
theorem itL_succ {rs : List Ins} {k m : Nat} : itL rs k (m + 1) = itL rs k m ++ [itJ rs k m] := by
  unfold itL
  rw [List.range_succ, List.map_append]
  rfl
abbrev N_landing : List Str := ["lines", "at", "seen", "place"]
abbrev S_landing : Scope := defScope (top 51)
theorem sc_landing : FnScope N_landing ["lines", "at"] (defScope (top 51)) := ⟨rfl, rfl, rfl, by decide +kernel, rfl, by decide +kernel, by decide +kernel⟩
def f_landing (K : PySem.W.Frag) (l a : V) (H : Hp) (Q : VK) : Prop := ∃ rs k, LnAt K H l rs ∧ Valid rs ∧ a = .int (k : Nat) ∧ k < rs.length ∧ ∀ H', Same H H' → Q (.int (landF rs k : Nat)) H'
theorem ok_landing (M : Md w K mg) : Cal P w K mg base 1 "landing" ["lines", "at"] (s2 (f_landing K)) := by
  obtain ⟨fd, F⟩ := M.fd_landing
  refine ⟨⟨_, fd, fn_of_d F sc_landing s2_len (fun cdv A outer s H vs Q E hr h => ?_), M.gl_landing, F.kp, F.bindsN fun _ _ _ _ _ _ us hl => match us, hl with | [_, _], _ => rfl⟩⟩
  have hu := hu_of hr
  have nd := sc_landing.nd
  obtain ⟨_, _, rfl, rs, k, ⟨la, xs, rfl, hl, hr2⟩, hv, rfl, hk, q⟩ := h
  have hlen := hr2.len
  refine ⟨_, (pss_cons (ps_set (i := 2) nd rfl (Or.inl rfl) pe_dnewK) (pss_cons (ps_set (i := 3) nd rfl (Or.inl rfl) (pv 1)) (pss_cons (ps_while PassesOwn.never (pt_cmpR op_eq (pe_ix (ix_tupK (K := K) rfl) (pe_ix (ix_listK (K := K) rfl) (pv 0) (pv 3) (fun _ _ => rfl)) pe_int (fun _ _ => rfl)) pe_str (nomark _)) (pss_cons (ps_if (pt_cmp (pc_din hu (pv 3) (pv 2))) (pss_one (ps_ret (pv 1))) pss_nil) (pss_cons (ps_dput hu (pv 2) (pv 3) pe_bl rfl) (pss_one (ps_set (i := 3) nd rfl (Or.inl rfl) (pe_ix (ix_tupK (K := K) rfl) (pe_ix (ix_listK (K := K) rfl) (pv 0) (pv 3) (fun _ _ => rfl)) pe_int (fun _ _ => rfl))))))) (pss_one (ps_ret (pv 3)))))), ?_⟩
  walk_at "rd"
  intro sd hsd
  have g1 : Same H (upd H sd (.dK [])) := Same.new hsd
  walk_at "rd"
  refine ⟨fun d σ H2 => ∃ m v3, d = rs.length - m ∧ Same H H2 ∧ H2 sd = some (.dK (seenK (itL rs k m))) ∧ (itL rs k m).Nodup ∧ (∀ j, j < m → isJ rs (itJ rs k j)) ∧ v3 = itJ rs k m ∧ σ = [some (.ref la), some (.int (k : Nat)), some (.ref sd), some (.int (v3 : Nat))],
    ⟨_, 0, k, rfl, g1, upd_same, List.nodup_nil, fun j hj => absurd hj (Nat.not_lt_zero _), rfl, rfl⟩, ?_⟩
  rintro d σ H2 ⟨m, v3, rfl, g2, hsd2, hnd, hj, hv3, rfl⟩
  have hlt : v3 < rs.length := by rw [hv3]; exact itJ_lt hv hk m hj
  obtain ⟨r, hr3, hrm, hw, ht⟩ := wA_of hlt
  obtain ⟨a, hxa, hsa⟩ := hr2.at hr3
  have hm : m ≤ rs.length := by
    have := nodup_lt rs.length (itL rs k m) hnd fun x hx => by
      obtain ⟨j, h1, rfl⟩ := itL_mem.mp hx
      exact isJ_lt (hj j h1)
    unfold itL at this
    rwa [List.length_map, List.length_range] at this
  walk_at "rd"
  refine a_ixL (SqL.of (g2 _ _ hl)) (atI_nat hxa) ?_
  walk_at "rd"
  refine a_ixT (Same.seqT g2 hsa) atI0 ?_
  walk_at "rd"
  refine a_ite (fun e1 => ?_) (fun e1 => ?_)
  · have hJ : isJ rs v3 := by unfold isJ; rw [hw]; exact e1
    refine ⟨fun σ' H' => ∃ d, d < rs.length - m ∧ ∃ m' v3', d = rs.length - m' ∧ Same H H' ∧ H' sd = some (.dK (seenK (itL rs k m'))) ∧ (itL rs k m').Nodup ∧ (∀ j, j < m' → isJ rs (itJ rs k j)) ∧ v3' = itJ rs k m' ∧ σ' = [some (.ref la), some (.int (k : Nat)), some (.ref sd), some (.int (v3' : Nat))], fun σ' H' ⟨d, h1, h2⟩ => ⟨d, h1, h2⟩, ?_⟩
    walk_at "rd"
    by_cases hin : v3 ∈ itL rs k m
    · refine b_inI1 hsd2 (seenK_in hin) ?_
      walk_at "rd"
      obtain ⟨j, h1, h2⟩ := itL_mem.mp hin
      have he : Endless rs k := endless_cycle h1 (fun i hi => by
        rcases Nat.lt_or_eq_of_le hi with h3 | rfl
        · exact hj i h3
        · rw [← hv3]; exact hJ) (by rw [h2, hv3])
      have := q H2 g2
      rw [landF_eq (.inr ⟨he, rfl⟩)] at this
      exact this
    · refine b_inI0 hsd2 (seenK_out hin) ?_
      walk_at "rd"
      refine b_dputI hsd2 ?_ ?_
      · unfold seenK itL
        rw [List.length_map, List.length_map, List.length_range]
        have := hv.2.1
        omega
      rw [seenK_put hin]
      have g3 : Same H (upd H2 sd (.dK (seenK (itL rs k m ++ [v3])))) := Same.mut g2 hsd
      walk_at "rd"
      refine a_ixL (SqL.of (g3 _ _ hl)) (atI_nat hxa) ?_
      walk_at "rd"
      obtain ⟨hx, hxlt⟩ := pl_x hv hrm (by rw [← hw]; unfold isJ at hJ; rw [hJ]; exact jump_pl)
      refine a_ixT (Same.seqT g3 hsa) (atI1 hx) ?_
      walk_at "rd"
      have hnl : (itL rs k (m + 1)).Nodup := by
        rw [itL_succ, ← hv3]
        exact List.nodup_append.mpr ⟨hnd, by simp, fun a ha b hb => by rw [List.mem_singleton.mp hb]; exact fun e => hin (e ▸ ha)⟩
      have hm2 : m + 1 ≤ rs.length := by
        have := nodup_lt rs.length (itL rs k (m + 1)) hnl fun x hx => by
          obtain ⟨j, h1, rfl⟩ := itL_mem.mp hx
          rcases Nat.lt_or_eq_of_le (Nat.le_of_lt_succ h1) with h3 | rfl
          · exact isJ_lt (hj j h3)
          · rw [← hv3]; exact hlt
        unfold itL at this
        rwa [List.length_map, List.length_range] at this
      refine ⟨rs.length - (m + 1), by omega, m + 1, tgt r, rfl, g3, ?_, hnl, fun j h1 => ?_, ?_, rfl⟩
      · rw [upd_same, itL_succ, hv3]
      · rcases Nat.lt_or_eq_of_le (Nat.le_of_lt_succ h1) with h3 | rfl
        · exact hj j h3
        · rw [← hv3]; exact hJ
      · show tgt r = tA rs (itJ rs k m)
        rw [← hv3, ht]
  · walk_at "rd"
    have := q H2 g2
    rw [landF_eq (.inl ⟨m, hj, by rw [← hv3]; unfold isJ; rw [hw]; exact e1, rfl⟩), ← hv3] at this
    exact this
end

end T51

set_option Elab.async false
set_option linter.all false
set_option maxRecDepth 100000
set_option maxHeartbeats 4000000
namespace T51
open PySem PySem.Spec PyProof.Rows L2
local macro_rules | `(tactic| walk_at "rd1") => `(tactic| with_reducible first
  | refine a_seq ?_ | refine a_var rfl ?_ | refine a_c ?_ | refine a_op ?_ | refine a_cons ?_ | refine a_nil ?_ | refine a_cb ?_ | refine a_asg ?_ | refine a_gname ?_ | refine a_ret ?_
  | refine a_if ?_ | refine a_test ?_ | refine a_tB ?_ | refine a_blP ?_ | refine a_and ?_ | refine a_or ?_ | refine a_not ?_ | refine a_andV ?_ | refine a_orV ?_ | refine a_notV ?_ | refine a_ifE ?_
  | refine a_rI0 ?_ | refine a_eqS ?_ | refine a_eqI ?_ | refine a_neS ?_ | refine a_neI ?_ | refine a_call ?_ | refine a_tup ?_ | refine a_lst ?_ | refine a_chain ?_ | refine a_iteT ?_ | refine a_iteF ?_ | refine a_iteNT ?_ | refine a_iteNF ?_
  | refine a_drop ?_ | refine a_next ?_ | refine a_cont ?_ | refine a_break ?_ | refine a_retN ?_ | refine a_ipI ?_ | refine a_aug rfl ?_ | refine a_bm ?_ | refine a_bm0 ?_ | refine b_ord ?_ | refine b_int ?_ | refine b_isN ?_ | refine b_notN ?_ | refine a_un ?_ | refine b_rU ?_ | refine a_fld ?_ | refine a_sfld ?_ | refine a_meth ?_ | refine a_make ?_
  | refine a_dget ?_ | refine a_din ?_ | refine a_dnin ?_ | refine a_dput ?_ | refine a_yes ?_ | refine a_gsub ?_)
local macro_rules | `(tactic| walk_at "is") => `(tactic| with_reducible first
  | refine a_isi_int_int ?_ | refine a_isi_int_bool ?_ | refine a_isi_int_str ?_ | refine a_isi_int_list ?_ | refine a_isi_int_tuple ?_ | refine a_isi_int_dict ?_
  | refine a_isi_bl_int ?_ | refine a_isi_bl_bool ?_ | refine a_isi_bl_str ?_ | refine a_isi_bl_list ?_ | refine a_isi_bl_tuple ?_ | refine a_isi_bl_dict ?_
  | refine a_isi_str_int ?_ | refine a_isi_str_bool ?_ | refine a_isi_str_str ?_ | refine a_isi_str_list ?_ | refine a_isi_str_tuple ?_ | refine a_isi_str_dict ?_
  | refine a_isi_non_int ?_ | refine a_isi_non_bool ?_ | refine a_isi_non_str ?_ | refine a_isi_non_list ?_ | refine a_isi_non_tuple ?_ | refine a_isi_non_dict ?_)
local macro_rules | `(tactic| walk_at "rd") => `(tactic| repeat (walk_at "rd1"))
local macro_rules | `(tactic| walk_at "hp") => `(tactic| first
  | with_reducible assumption
  | with_reducible exact upd_same
  | (with_reducible refine SqL.of ?_; walk_at "hp")
  | (with_reducible refine SqT.of ?_; walk_at "hp")
  | (with_reducible refine Eq.trans (upd_ne ?_) ?_; rotate_left; focus (walk_at "hp"); walk_at "ne")
  | (with_reducible refine (by with_reducible assumption : Same _ _) _ _ ?_; walk_at "hp"))
local macro_rules | `(tactic| walk_at "ne") => `(tactic| first
  | with_reducible assumption
  | with_reducible exact Ne.symm (by with_reducible assumption)
  | (with_reducible refine ne_of_none ?_ (by with_reducible assumption); walk_at "hp")
  | (with_reducible refine Ne.symm (ne_of_none ?_ (by with_reducible assumption)); walk_at "hp"))
local macro_rules | `(tactic| walk_at "rc") => `(tactic| with_reducible first
  | refine a_s1 ?_ | refine a_s2 ?_ | refine a_s3 ?_ | refine a_s4 ?_ | refine a_s0 ?_ | refine a_m1 ?_ | refine a_m2 ?_ | refine a_m3 ?_ | refine a_m4 ?_)
local macro_rules | `(tactic| walk_at "rx1") => `(tactic| with_reducible first
  | refine a_var rfl ?_ | refine a_c ?_ | refine a_op ?_ | refine a_cons ?_ | refine a_nil ?_ | refine a_cb ?_ | refine a_asg ?_ | refine a_gname ?_ | refine a_ret ?_
  | refine a_if ?_ | refine a_test ?_ | refine a_tB ?_ | refine a_blP ?_ | refine a_and ?_ | refine a_or ?_ | refine a_not ?_ | refine a_andV ?_ | refine a_orV ?_ | refine a_notV ?_ | refine a_ifE ?_
  | refine a_rI0 ?_ | refine a_eqS ?_ | refine a_eqI ?_ | refine a_neS ?_ | refine a_neI ?_ | refine a_call ?_ | refine a_tup ?_ | refine a_lst ?_ | refine a_chain ?_ | refine a_iteT ?_ | refine a_iteF ?_ | refine a_iteNT ?_ | refine a_iteNF ?_
  | refine a_drop ?_ | refine a_next ?_ | refine a_cont ?_ | refine a_break ?_ | refine a_retN ?_ | refine a_ipI ?_ | refine a_aug rfl ?_ | refine a_bm ?_ | refine a_bm0 ?_ | refine b_ord ?_ | refine b_int ?_ | refine b_isN ?_ | refine b_notN ?_ | refine a_un ?_ | refine b_rU ?_ | refine a_fld ?_ | refine a_sfld ?_ | refine a_meth ?_ | refine a_make ?_
  | refine a_dget ?_ | refine a_din ?_ | refine a_dnin ?_ | refine a_dput ?_ | refine a_yes ?_ | refine a_gsub ?_)
local macro_rules | `(tactic| walk_at "rx") => `(tactic| repeat (walk_at "rx1"))
section
variable {P : Program} {w : World} {K : PySem.W.Frag} {mg : Str → Option Value} {base : Heap}
theorem sameT_row {H H' : Hp} (e : SameT H H') {v : V} {r : Ins} (h : RowAt K H v r) : RowAt K H' v r := by
  obtain ⟨a, h1, h2⟩ := h
  exact ⟨a, h1, e.sq h2⟩
abbrev N_straight : List Str := ["lines", "at", "word", "place", "end"]
abbrev S_straight : Scope := defScope (top 52)
theorem sc_straight : FnScope N_straight ["lines", "at"] (defScope (top 52)) := ⟨rfl, rfl, rfl, by decide +kernel, rfl, by decide +kernel, by decide +kernel⟩
def f_straight (K : PySem.W.Frag) (l a : V) (H : Hp) (Q : VK) : Prop := ∃ rs k r, LnAt K H l rs ∧ Valid rs ∧ a = .int (k : Nat) ∧ rs[k]? = some r ∧ plB r.w = true ∧ ∀ v H', Same H H' → RowAt K H' v (strF rs k r) → Q v H'
theorem ok_straight (M : Md w K mg) (C_landing : Cal P w K mg base 1 "landing" ["lines", "at"] (s2 (f_landing K))) : Cal P w K mg base 2 "straight" ["lines", "at"] (s2 (f_straight K)) := by
  obtain ⟨fd, F⟩ := M.fd_straight
  refine ⟨⟨_, fd, fn_of_d F sc_straight s2_len (fun cdv A outer s H vs Q E hr h => ?_), M.gl_straight, F.kp, F.bindsN fun _ _ _ _ _ _ us hl => match us, hl with | [_, _], _ => rfl⟩⟩
  have hu := hu_of hr
  have nd := sc_straight.nd
  obtain ⟨_, _, rfl, rs, k, r, ⟨la, xs, rfl, hl, hr2⟩, hv, rfl, hk, hp, q⟩ := h
  have hlen := hr2.len
  obtain ⟨a, hxa, hsa⟩ := hr2.at hk
  obtain ⟨hx, hxlt⟩ := pl_x hv (List.mem_of_getElem? hk) hp
  rw [insV_x hx] at hsa
  refine ⟨_, (pss_cons (ps_asg (pe_ix (ix_listK (K := K) rfl) (pv 0) (pv 1) (fun _ _ => rfl)) (pg_tup rfl (pgs_cons (pg_name (i := 2) nd rfl (Or.inl rfl)) (pgs_cons (pg_name (i := 3) nd rfl (Or.inl rfl)) pgs_nil)))) (pss_cons (ps_set (i := 4) nd rfl (Or.inl rfl) (pe_cl C_landing (hr.mono (by first | decide | omega)) rfl (pa_cons (pv 0) (pa_cons (pv 3) pa_nil)))) (pss_cons (ps_if (PW.pt (pw_and (pt_cmpR op_eq (pv 2) pe_str (nomark _)) (pw_and1 (pt_cmpR (op_inK (K := K) rfl) (pe_ix (ix_tupK (K := K) rfl) (pe_ix (ix_listK (K := K) rfl) (pv 0) (pv 4) (fun _ _ => rfl)) pe_int (fun _ _ => rfl)) (pe_globR rfl M.gl_COPIED) (by first | rfl | exact nomark _))))) (pss_one (ps_ret (pe_ix (ix_listK (K := K) rfl) (pv 0) (pv 4) (fun _ _ => rfl)))) pss_nil) (pss_cons (ps_if (PW.pt (pw_and (pt_cmpR op_eq (pv 2) pe_str (nomark _)) (pw_and (pt_cmpR op_lt (pe_op op_add (pv 1) pe_int) (pe_callB (call_lenK (K := K) rfl) rfl M.fr_len PySem.boot_len (pa_cons (pv 0) pa_nil)) (nomark _)) (pw_and1 (pt_cmpR op_eq (pe_ix (ix_tupK (K := K) rfl) (pe_ix (ix_listK (K := K) rfl) (pv 0) (pe_op op_add (pv 1) pe_int) (fun _ _ => rfl)) pe_int (fun _ _ => rfl)) pe_str (nomark _)))))) (pss_one (ps_ret (pe_tup (pa_cons pe_str (pa_cons (pv 4) pa_nil))))) pss_nil) (pss_one (ps_ret (pe_tup (pa_cons (pv 2) (pa_cons (pv 4) pa_nil))))))))), ?_⟩
  walk_at "rd"
  refine a_ixL (SqL.of hl) (atI_nat hxa) ?_
  refine ⟨a, _, rfl, hsa, rfl, _, _, rfl, _, _, rfl, rfl, ?_⟩
  walk_at "rd"; walk_at "rc"
  refine ⟨rs, tgt r, ⟨la, xs, rfl, hl, hr2⟩, hv, rfl, hxlt, fun H1 g1 => ?_⟩
  have hel := lands_lt hv hxlt (landF_spec rs (tgt r))
  obtain ⟨r2, hr3, hrm, hw2, _⟩ := wA_of hel
  obtain ⟨a2, hxa2, hsa2⟩ := hr2.at hr3
  have fin2 : ¬ (r.w = "jump" ∧ copB (wA rs (landF rs (tgt r))) = true) → ∀ H2, Same H H2 → ∀ (c : Bool), (c = true ↔ r.w = "retry" ∧ k + 1 < rs.length ∧ wA rs (k + 1) = "fail") → ∀ p, H2 p = none →
      Q (.ref p) (upd H2 p (.tup [.str (if c = true then "jump" else r.w), .int (landF rs (tgt r) : Nat)])) := fun c1 H2 g2 c hc p hp2 => by
    refine q _ _ (Same.more g2 hp2) ⟨p, rfl, SqT.of ?_⟩
    rw [upd_same]
    unfold strF
    rw [if_neg c1]
    cases c with
    | true => rw [if_pos (hc.mp rfl)]; rfl
    | false => rw [if_neg fun z => Bool.false_ne_true (hc.mpr z)]; rfl
  walk_at "rd"
  have part2 : ¬ (r.w = "jump" ∧ copB (wA rs (landF rs (tgt r))) = true) → True := fun _ => trivial
  refine a_ite (fun e1 => ?_) (fun e1 => ?_)
  · walk_at "rd"
    refine a_ixL (SqL.of (g1 _ _ hl)) (atI_nat hxa2) ?_
    walk_at "rd"
    refine a_ixT (Same.seqT g1 hsa2) atI0 ?_
    walk_at "rd"
    cases hc : copB r2.w with
    | true =>
      refine b_inT (M.tp_COPIED _) rfl (by decide +kernel) (b := true) hc ?_
      walk_at "rd"
      refine a_ixL (SqL.of (g1 _ _ hl)) (atI_nat hxa2) ?_
      refine q _ _ g1 ⟨a2, rfl, ?_⟩
      unfold strF
      rw [if_pos ⟨e1, by rw [hw2]; exact hc⟩, hr3]
      exact Same.seqT g1 hsa2
    | false =>
      refine b_inT (M.tp_COPIED _) rfl (by decide +kernel) (b := false) hc ?_
      walk_at "rd"
      refine a_ite (fun e2 => absurd (e1.symm.trans e2) (by decide +kernel)) (fun e2 => ?_)
      walk_at "rd"
      refine ⟨sz2, fun p hp2 => ?_⟩
      exact fin2 (fun z => by have := z.2; rw [hw2, hc] at this; cases this) H1 g1 false ⟨fun z => Bool.noConfusion z, fun z => absurd z.1 e2⟩ p hp2
  · have c1 : ¬ (r.w = "jump" ∧ copB (wA rs (landF rs (tgt r))) = true) := fun z => e1 z.1
    walk_at "rd"
    refine a_ite (fun e2 => ?_) (fun e2 => ?_)
    · walk_at "rd"
      refine b_lenL (SqL.of (g1 _ _ hl)) ?_
      walk_at "rd"
      refine a_ite (fun e3 => ?_) (fun e3 => ?_)
      · have hk1 : k + 1 < rs.length := by omega
        obtain ⟨r4, hr4, _, hw4, _⟩ := wA_of hk1
        obtain ⟨a4, hxa4, hsa4⟩ := hr2.at hr4
        walk_at "rd"
        refine a_ixL (SqL.of (g1 _ _ hl)) (by rw [show ((k : Int) + 1) = ((k + 1 : Nat) : Int) by omega]; exact atI_nat hxa4) ?_
        walk_at "rd"
        refine a_ixT (Same.seqT g1 hsa4) atI0 ?_
        walk_at "rd"
        refine a_ite (fun e4 => ?_) (fun e4 => ?_)
        · walk_at "rd"
          refine ⟨sz2, fun p hp2 => ?_⟩
          exact fin2 c1 H1 g1 true ⟨fun _ => ⟨e2, hk1, hw4.trans e4⟩, fun _ => rfl⟩ p hp2
        · walk_at "rd"
          refine ⟨sz2, fun p hp2 => ?_⟩
          exact fin2 c1 H1 g1 false ⟨fun z => Bool.noConfusion z, fun z => absurd (hw4.symm.trans z.2.2) e4⟩ p hp2
      · walk_at "rd"
        refine ⟨sz2, fun p hp2 => ?_⟩
        exact fin2 c1 H1 g1 false ⟨fun z => Bool.noConfusion z, fun z => absurd z.2.1 (by omega)⟩ p hp2
    · walk_at "rd"
      refine ⟨sz2, fun p hp2 => ?_⟩
      exact fin2 c1 H1 g1 false ⟨fun z => Bool.noConfusion z, fun z => absurd z.1 e2⟩ p hp2
abbrev N_straightened : List Str := ["lines", "result", "at"]
abbrev S_straightened : Scope := defScope (top 53)
theorem sc_straightened : FnScope N_straightened ["lines"] (defScope (top 53)) := ⟨rfl, rfl, rfl, by decide +kernel, rfl, by decide +kernel, by decide +kernel⟩
def f_straightened (K : PySem.W.Frag) (l : V) (H : Hp) (Q : VK) : Prop := ∃ rs, LnAt K H l rs ∧ Valid rs ∧ ∀ l' xs' H', Same H H' → H l' = none → H' l' = some (.lst xs') → Rows K H' xs' (straightF rs) → Q (.ref l') H'
theorem ok_straightened (M : Md w K mg) (C_straight : Cal P w K mg base 2 "straight" ["lines", "at"] (s2 (f_straight K))) : Cal P w K mg base 3 "straightened" ["lines"] (s1 (f_straightened K)) := by
  obtain ⟨fd, F⟩ := M.fd_straightened
  refine ⟨⟨_, fd, fn_of_d F sc_straightened s1_len (fun cdv A outer s H vs Q E hr h => ?_), M.gl_straightened, F.kp, F.bindsN fun _ _ _ _ _ _ us hl => match us, hl with | [_], _ => rfl⟩⟩
  have hu := hu_of hr
  have nd := sc_straightened.nd
  obtain ⟨_, rfl, rs, ⟨la, xs, rfl, hl, hr2⟩, hv, q⟩ := h
  have hlen := hr2.len
  refine ⟨_, (pss_cons (ps_set (i := 1) nd rfl (Or.inl rfl) (pe_lst pa_nil)) (pss_cons (ps_for PassesOwn.never rfl (pi_range1 rfl M.fr_range (pa_cons (pe_callB (call_lenK (K := K) rfl) rfl M.fr_len PySem.boot_len (pa_cons (pv 0) pa_nil)) pa_nil)) (pg_name (i := 2) nd rfl (Or.inl rfl)) (pss_one (ps_if (pt_cmpR (op_inK (K := K) rfl) (pe_ix (ix_tupK (K := K) rfl) (pe_ix (ix_listK (K := K) rfl) (pv 0) (pv 2) (fun _ _ => rfl)) pe_int (fun _ _ => rfl)) (pe_globR rfl M.gl_PLACED_shortening) (by first | rfl | exact nomark _)) (pss_one (ps_expr (pe_bm PySem.F.plainAttrs_list PySem.F.slot_list_append PySem.F.type_list_append mt_append (pv 1) (pa_cons (pe_cl C_straight (hr.mono (by first | decide | omega)) rfl (pa_cons (pv 0) (pa_cons (pv 2) pa_nil))) pa_nil)))) (pss_one (ps_expr (pe_bm PySem.F.plainAttrs_list PySem.F.slot_list_append PySem.F.type_list_append mt_append (pv 1) (pa_cons (pe_ix (ix_listK (K := K) rfl) (pv 0) (pv 2) (fun _ _ => rfl)) pa_nil))))))) (pss_one (ps_ret (pv 1))))), ?_⟩
  walk_at "rd"
  refine ⟨by decide, fun res hres => ?_⟩
  have g1 : Same H (upd H res (.lst [])) := Same.new hres
  walk_at "rd"
  refine ⟨_, rfl, _, _, rfl, .inl (SqL.of (g1 _ _ hl)), _, rfl, by omega, by have := hv.2.1; omega, ?_⟩
  rw [Int.toNat_natCast, hlen]
  refine for_range (lo := 0) (n := rs.length) (fun i σ H2 => Same H H2 ∧ ∃ acc v, H2 res = some (.lst acc) ∧ Rows K H2 acc ((straightF rs).take i) ∧ σ = [some (.ref la), some (.ref res), v]) ⟨g1, [], _, upd_same, .nil, rfl⟩ ?_ ?_
  · rintro i σ H2 hi ⟨g2, acc, v, hacc, hra, rfl⟩
    have hc : ((0 : Int) + (i : Nat)) = ((i : Nat) : Int) := by omega
    rw [hc]
    obtain ⟨r, hr3, hrm, hw, _⟩ := wA_of hi
    obtain ⟨a, hxa, hsa⟩ := hr2.at hr3
    have hal : acc.length ≤ 100000 := by
      have := hra.len
      rw [List.length_take] at this
      have := hv.2.1
      omega
    have fin : ∀ H3 v, Same H2 H3 → RowAt K H3 v (oneF rs i r) → Same H (upd H3 res (.lst (acc ++ [v]))) ∧ ∃ acc' v', (upd H3 res (.lst (acc ++ [v]))) res = some (.lst acc') ∧ Rows K (upd H3 res (.lst (acc ++ [v]))) acc' ((straightF rs).take (i + 1)) ∧
        [some (V.ref la), some (V.ref res), some (V.int (i : Nat))] = [some (.ref la), some (.ref res), v'] := fun H3 v g3 hv3 => by
      have st := SameT.lst (o := .lst (acc ++ [v])) (g3 _ _ hacc)
      refine ⟨Same.mut (g2.trans g3) hres, _, _, upd_same, ?_, rfl⟩
      rw [take_succ_at (straightF_at hr3)]
      exact Paired_app (Rows.tup ((SameT.of g3).trans st) hra) (.cons (sameT_row st hv3) .nil)
    walk_at "rd"
    refine a_ixL (SqL.of (g2 _ _ hl)) (atI_nat hxa) ?_
    walk_at "rd"
    refine a_ixT (Same.seqT g2 hsa) atI0 ?_
    walk_at "rd"
    cases hp : plB r.w with
    | true =>
      refine b_inT (M.tp_PLACED_shortening _) rfl (by decide +kernel) (b := true) hp ?_
      walk_at "rd"
      refine b_appendE hacc ?_
      walk_at "rd"; walk_at "rc"
      refine ⟨rs, i, r, ⟨la, xs, rfl, g2 _ _ hl, Rows.mono g2 hr2⟩, hv, rfl, hr3, hp, fun v H3 g3 hv3 => ?_⟩
      walk_at "rd"
      refine b_app (g3 _ _ hacc) hal ?_
      exact fin H3 v g3 (by unfold oneF; rw [if_pos hp]; exact hv3)
    | false =>
      refine b_inT (M.tp_PLACED_shortening _) rfl (by decide +kernel) (b := false) hp ?_
      walk_at "rd"
      refine b_appendE hacc ?_
      walk_at "rd"
      refine a_ixL (SqL.of (g2 _ _ hl)) (atI_nat hxa) ?_
      walk_at "rd"
      refine b_app hacc hal ?_
      exact fin H2 _ (Same.refl _) (by unfold oneF; rw [if_neg (by rw [hp]; exact Bool.false_ne_true)]; exact ⟨a, rfl, Same.seqT g2 hsa⟩)
  · rintro σ H2 ⟨g2, acc, v, hacc, hra, rfl⟩
    rw [List.take_of_length_le (by rw [straightF_len]; exact Nat.le_refl _)] at hra
    walk_at "rd"
    exact q _ _ _ g2 hres hacc hra
end

end T51

set_option Elab.async false
set_option linter.all false
set_option maxRecDepth 100000
set_option maxHeartbeats 4000000
namespace T51
open PySem PySem.Spec PyProof.Rows L2
local macro_rules | `(tactic| walk_at "rd1") => `(tactic| with_reducible first
  | refine a_seq ?_ | refine a_var rfl ?_ | refine a_c ?_ | refine a_op ?_ | refine a_cons ?_ | refine a_nil ?_ | refine a_cb ?_ | refine a_asg ?_ | refine a_gname ?_ | refine a_ret ?_
  | refine a_if ?_ | refine a_test ?_ | refine a_tB ?_ | refine a_blP ?_ | refine a_and ?_ | refine a_or ?_ | refine a_not ?_ | refine a_andV ?_ | refine a_orV ?_ | refine a_notV ?_ | refine a_ifE ?_
  | refine a_rI0 ?_ | refine a_eqS ?_ | refine a_eqI ?_ | refine a_neS ?_ | refine a_neI ?_ | refine a_call ?_ | refine a_tup ?_ | refine a_lst ?_ | refine a_chain ?_ | refine a_iteT ?_ | refine a_iteF ?_ | refine a_iteNT ?_ | refine a_iteNF ?_
  | refine a_drop ?_ | refine a_next ?_ | refine a_cont ?_ | refine a_break ?_ | refine a_retN ?_ | refine a_ipI ?_ | refine a_aug rfl ?_ | refine a_bm ?_ | refine a_bm0 ?_ | refine b_ord ?_ | refine b_int ?_ | refine b_isN ?_ | refine b_notN ?_ | refine a_un ?_ | refine b_rU ?_ | refine a_fld ?_ | refine a_sfld ?_ | refine a_meth ?_ | refine a_make ?_
  | refine a_dget ?_ | refine a_din ?_ | refine a_dnin ?_ | refine a_dput ?_ | refine a_yes ?_ | refine a_gsub ?_)
local macro_rules | `(tactic| walk_at "is") => `(tactic| with_reducible first
  | refine a_isi_int_int ?_ | refine a_isi_int_bool ?_ | refine a_isi_int_str ?_ | refine a_isi_int_list ?_ | refine a_isi_int_tuple ?_ | refine a_isi_int_dict ?_
  | refine a_isi_bl_int ?_ | refine a_isi_bl_bool ?_ | refine a_isi_bl_str ?_ | refine a_isi_bl_list ?_ | refine a_isi_bl_tuple ?_ | refine a_isi_bl_dict ?_
  | refine a_isi_str_int ?_ | refine a_isi_str_bool ?_ | refine a_isi_str_str ?_ | refine a_isi_str_list ?_ | refine a_isi_str_tuple ?_ | refine a_isi_str_dict ?_
  | refine a_isi_non_int ?_ | refine a_isi_non_bool ?_ | refine a_isi_non_str ?_ | refine a_isi_non_list ?_ | refine a_isi_non_tuple ?_ | refine a_isi_non_dict ?_)
local macro_rules | `(tactic| walk_at "rd") => `(tactic| repeat (walk_at "rd1"))
local macro_rules | `(tactic| walk_at "hp") => `(tactic| first
  | with_reducible assumption
  | with_reducible exact upd_same
  | (with_reducible refine SqL.of ?_; walk_at "hp")
  | (with_reducible refine SqT.of ?_; walk_at "hp")
  | (with_reducible refine Eq.trans (upd_ne ?_) ?_; rotate_left; focus (walk_at "hp"); walk_at "ne")
  | (with_reducible refine (by with_reducible assumption : Same _ _) _ _ ?_; walk_at "hp"))
local macro_rules | `(tactic| walk_at "ne") => `(tactic| first
  | with_reducible assumption
  | with_reducible exact Ne.symm (by with_reducible assumption)
  | (with_reducible refine ne_of_none ?_ (by with_reducible assumption); walk_at "hp")
  | (with_reducible refine Ne.symm (ne_of_none ?_ (by with_reducible assumption)); walk_at "hp"))
local macro_rules | `(tactic| walk_at "rc") => `(tactic| with_reducible first
  | refine a_s1 ?_ | refine a_s2 ?_ | refine a_s3 ?_ | refine a_s4 ?_ | refine a_s0 ?_ | refine a_m1 ?_ | refine a_m2 ?_ | refine a_m3 ?_ | refine a_m4 ?_)
local macro_rules | `(tactic| walk_at "rx1") => `(tactic| with_reducible first
  | refine a_var rfl ?_ | refine a_c ?_ | refine a_op ?_ | refine a_cons ?_ | refine a_nil ?_ | refine a_cb ?_ | refine a_asg ?_ | refine a_gname ?_ | refine a_ret ?_
  | refine a_if ?_ | refine a_test ?_ | refine a_tB ?_ | refine a_blP ?_ | refine a_and ?_ | refine a_or ?_ | refine a_not ?_ | refine a_andV ?_ | refine a_orV ?_ | refine a_notV ?_ | refine a_ifE ?_
  | refine a_rI0 ?_ | refine a_eqS ?_ | refine a_eqI ?_ | refine a_neS ?_ | refine a_neI ?_ | refine a_call ?_ | refine a_tup ?_ | refine a_lst ?_ | refine a_chain ?_ | refine a_iteT ?_ | refine a_iteF ?_ | refine a_iteNT ?_ | refine a_iteNF ?_
  | refine a_drop ?_ | refine a_next ?_ | refine a_cont ?_ | refine a_break ?_ | refine a_retN ?_ | refine a_ipI ?_ | refine a_aug rfl ?_ | refine a_bm ?_ | refine a_bm0 ?_ | refine b_ord ?_ | refine b_int ?_ | refine b_isN ?_ | refine b_notN ?_ | refine a_un ?_ | refine b_rU ?_ | refine a_fld ?_ | refine a_sfld ?_ | refine a_meth ?_ | refine a_make ?_
  | refine a_dget ?_ | refine a_din ?_ | refine a_dnin ?_ | refine a_dput ?_ | refine a_yes ?_ | refine a_gsub ?_)
local macro_rules | `(tactic| walk_at "rx") => `(tactic| repeat (walk_at "rx1"))

section
variable {P : Program} {w : World} {K : PySem.W.Frag} {mg : Str → Option Value} {base : Heap}
/-! ### what can be reached -/
/-- entries: names to places -/
def EnOk (kvs : List (Key × V)) (n : Nat) : Prop := kvs.length ≤ 6 ∧ (kvs.map (·.1)).Nodup ∧ ∀ kv ∈ kvs, ∃ z i, kv = ((Sum.inr z : Key), V.int (i : Nat)) ∧ i < n
def stP (kvs : List (Key × V)) : List Nat := kvs.map fun kv => match kv.2 with
  | .int i => i.toNat
  | _ => 0
theorem stP_V {kvs : List (Key × V)} {n : Nat} (h : EnOk kvs n) : kvs.map (·.2) = (stP kvs).map fun (p : Nat) => V.int (p : Nat) := by
  unfold stP
  rw [List.map_map]
  refine List.map_congr_left fun kv hkv => ?_
  obtain ⟨z, i, rfl, _⟩ := h.2.2 kv hkv
  show V.int (i : Nat) = V.int (((i : Int).toNat : Nat) : Int)
  rw [Int.toNat_natCast]
theorem stP_lt {kvs : List (Key × V)} {n : Nat} (h : EnOk kvs n) : ∀ p ∈ stP kvs, p < n := fun p hp => by
  obtain ⟨kv, hkv, rfl⟩ := List.mem_map.mp hp
  obtain ⟨z, i, rfl, hi⟩ := h.2.2 kv hkv
  show (i : Int).toNat < n
  rw [Int.toNat_natCast]
  exact hi
inductive Reach (rs : List Ins) (ss : List Nat) : Nat → Prop
  | start {p : Nat} : p ∈ ss → p < rs.length → Reach rs ss p
  | to {p : Nat} : Reach rs ss p → plB (wA rs p) = true → tA rs p < rs.length → Reach rs ss (tA rs p)
  | on {p : Nat} : Reach rs ss p → endB (wA rs p) = false → p + 1 < rs.length → Reach rs ss (p + 1)
def fl (bs : List Bool) (i : Nat) : Bool := bs.getD i false
structure RchOk (rs : List Ins) (ss : List Nat) (bs : List Bool) : Prop where
  len : bs.length = rs.length
  sound : ∀ i, fl bs i = true → Reach rs ss i
  full : ∀ i, Reach rs ss i → fl bs i = true
theorem fl_set {bs : List Bool} {i j : Nat} {b : Bool} (h : i < bs.length) : fl (bs.set i b) j = if i = j then b else fl bs j := by
  unfold fl
  rw [List.getD_eq_getElem?_getD, List.getD_eq_getElem?_getD, List.getElem?_set]
  by_cases e : i = j
  · subst e
    rw [if_pos rfl, if_pos h, if_pos rfl]
    rfl
  · rw [if_neg e, if_neg e]
theorem fl_at {bs : List Bool} {i : Nat} (h : i < bs.length) : bs[i]? = some (fl bs i) := by
  unfold fl
  rw [List.getD_eq_getElem?_getD, List.getElem?_eq_getElem h]
  rfl
theorem fl_lt {bs : List Bool} {i : Nat} (h : fl bs i = true) : i < bs.length := by
  rcases Nat.lt_or_ge i bs.length with h1 | h1
  · exact h1
  · unfold fl at h
    rw [List.getD_eq_getElem?_getD, List.getElem?_eq_none h1] at h
    cases h
theorem ixN_nat {n j : Nat} (h : j < n) : ixN n ((j : Nat) : Int) = some j := by
  unfold ixN
  rw [if_pos (by omega), if_pos (by omega), Int.toNat_natCast]
/-- a search: what is marked, what waits -/
structure Srch (rs : List Ins) (ss : List Nat) (bs : List Bool) (ws : List Nat) : Prop where
  len : bs.length = rs.length
  sound : ∀ i, fl bs i = true → Reach rs ss i
  wsound : ∀ i ∈ ws, i < rs.length → Reach rs ss i
  st : ∀ p ∈ ss, p < rs.length → fl bs p = true ∨ p ∈ ws
  to : ∀ p, fl bs p = true → plB (wA rs p) = true → tA rs p < rs.length → fl bs (tA rs p) = true ∨ tA rs p ∈ ws
  on : ∀ p, fl bs p = true → endB (wA rs p) = false → p + 1 < rs.length → fl bs (p + 1) = true ∨ p + 1 ∈ ws
theorem Srch.done {rs : List Ins} {ss : List Nat} {bs : List Bool} (h : Srch rs ss bs []) : RchOk rs ss bs := by
  refine ⟨h.len, h.sound, fun i hi => ?_⟩
  induction hi with
  | start h1 h2 => exact (h.st _ h1 h2).resolve_right (by simp)
  | to _ h2 h3 ih => exact (h.to _ ih h2 h3).resolve_right (by simp)
  | on _ h2 h3 ih => exact (h.on _ ih h2 h3).resolve_right (by simp)
/-- what a row adds -/
def adds (rs : List Ins) (p : Nat) : List Nat := (if plB (wA rs p) = true then [tA rs p] else []) ++ (if endB (wA rs p) = false then [p + 1] else [])
theorem Srch.skip {rs : List Ins} {ss : List Nat} {bs : List Bool} {ws : List Nat} {p : Nat} (h : Srch rs ss bs (ws ++ [p])) (hp : p < rs.length → fl bs p = true) : Srch rs ss bs ws := by
  have key : ∀ q, q < rs.length → fl bs q = true ∨ q ∈ ws ++ [p] → fl bs q = true ∨ q ∈ ws := fun q hq hh => by
    rcases hh with hh | hh
    · exact .inl hh
    · rcases List.mem_append.mp hh with hh | hh
      · exact .inr hh
      · rw [List.mem_singleton.mp hh] at hq ⊢
        exact .inl (hp hq)
  exact ⟨h.len, h.sound, fun i hi => h.wsound i (List.mem_append_left _ hi), fun q hq hl => key q hl (h.st q hq hl), fun q h1 h2 h3 => key _ h3 (h.to q h1 h2 h3), fun q h1 h2 h3 => key _ h3 (h.on q h1 h2 h3)⟩
theorem Srch.take {rs : List Ins} {ss : List Nat} {bs : List Bool} {ws : List Nat} {p : Nat} (h : Srch rs ss bs (ws ++ [p])) (hp : p < rs.length) (htl : plB (wA rs p) = true → tA rs p < rs.length) : Srch rs ss (bs.set p true) (ws ++ adds rs p) := by
  have hb : p < bs.length := by rw [h.len]; exact hp
  have rp : Reach rs ss p := h.wsound p (List.mem_append_right _ (List.mem_singleton.mpr rfl)) hp
  have fs : ∀ q, fl (bs.set p true) q = true ↔ q = p ∨ fl bs q = true := fun q => by
    rw [fl_set hb]
    by_cases e : p = q
    · rw [if_pos e]; simp [e]
    · rw [if_neg e]
      constructor
      · exact fun z => .inr z
      · rintro (z | z)
        · exact absurd z.symm e
        · exact z
  have key : ∀ q, fl bs q = true ∨ q ∈ ws ++ [p] → fl (bs.set p true) q = true ∨ q ∈ ws ++ adds rs p := fun q hh => by
    rcases hh with hh | hh
    · exact .inl ((fs q).mpr (.inr hh))
    · rcases List.mem_append.mp hh with hh | hh
      · exact .inr (List.mem_append_left _ hh)
      · exact .inl ((fs q).mpr (.inl (List.mem_singleton.mp hh)))
  refine ⟨by rw [List.length_set]; exact h.len, fun i hi => ?_, fun i hi hl => ?_, fun q hq hl => key q (h.st q hq hl), fun q h1 h2 h3 => ?_, fun q h1 h2 h3 => ?_⟩
  · rcases (fs i).mp hi with rfl | hi
    · exact rp
    · exact h.sound i hi
  · rcases List.mem_append.mp hi with hi | hi
    · exact h.wsound i (List.mem_append_left _ hi) hl
    · unfold adds at hi
      rcases List.mem_append.mp hi with hi | hi
      · by_cases c : plB (wA rs p) = true
        · rw [if_pos c] at hi
          rw [List.mem_singleton.mp hi]
          exact .to rp c (htl c)
        · rw [if_neg c] at hi; simp at hi
      · by_cases c : endB (wA rs p) = false
        · rw [if_pos c] at hi
          rw [List.mem_singleton.mp hi] at hl ⊢
          exact .on rp c hl
        · rw [if_neg c] at hi; simp at hi
  · rcases (fs q).mp h1 with rfl | h1
    · exact .inr (List.mem_append_right _ (by unfold adds; rw [if_pos h2]; simp))
    · exact key _ (h.to q h1 h2 h3)
  · rcases (fs q).mp h1 with rfl | h1
    · exact .inr (List.mem_append_right _ (by unfold adds; rw [if_pos h2]; simp))
    · exact key _ (h.on q h1 h2 h3)
def cntT (bs : List Bool) : Nat := (bs.filter id).length
theorem cntT_le (bs : List Bool) : cntT bs ≤ bs.length := List.length_filter_le _ _
theorem cntT_set : ∀ {bs : List Bool} {p : Nat}, p < bs.length → fl bs p = false → cntT (bs.set p true) = cntT bs + 1
  | b :: bs, 0, _, h => by
    have hb : b = false := h
    subst hb
    rfl
  | b :: bs, p + 1, hp, h => by
    have ih := cntT_set (bs := bs) (p := p) (Nat.lt_of_succ_lt_succ hp) h
    unfold cntT at ih ⊢
    rw [List.set_cons_succ]
    cases b
    · exact ih
    · show ((bs.set p true).filter id).length + 1 = _
      rw [ih]
      rfl
abbrev N_reached_places : List Str := ["lines", "starts", "reached", "waiting", "at"]
abbrev S_reached_places : Scope := defScope (top 54)
theorem sc_reached_places : FnScope N_reached_places ["lines", "starts"] (defScope (top 54)) := ⟨rfl, rfl, rfl, by decide +kernel, rfl, by decide +kernel, by decide +kernel⟩
def f_reached (K : PySem.W.Frag) (l s : V) (H : Hp) (Q : VK) : Prop := ∃ rs sa kvs, LnAt K H l rs ∧ Valid rs ∧ s = .ref sa ∧ H sa = some (.dK kvs) ∧ EnOk kvs rs.length ∧ ∀ r bs H', Same H H' → H r = none → H' r = some (.lst (bs.map V.bl)) → RchOk rs (stP kvs) bs → Q (.ref r) H'
theorem ok_reached (M : Md w K mg) : Cal P w K mg base 1 "reached_places" ["lines", "starts"] (s2 (f_reached K)) := by
  obtain ⟨fd, F⟩ := M.fd_reached_places
  refine ⟨⟨_, fd, fn_of_d F sc_reached_places s2_len (fun cdv A outer s H vs Q E hr h => ?_), M.gl_reached_places, F.kp, F.bindsN fun _ _ _ _ _ _ us hl => match us, hl with | [_, _], _ => rfl⟩⟩
  have hu := hu_of hr
  have nd := sc_reached_places.nd
  obtain ⟨_, _, rfl, rs, sa, kvs, ⟨la, xs, rfl, hl, hr2⟩, hv, rfl, hs, hen, q⟩ := h
  have hlen := hr2.len
  refine ⟨_, (pss_cons (ps_set (i := 2) nd rfl (Or.inl rfl) (pe_op op_rep (pe_lst (pa_cons pe_bl pa_nil)) (pe_callB (call_lenK (K := K) rfl) rfl M.fr_len PySem.boot_len (pa_cons (pv 0) pa_nil)))) (pss_cons (ps_set (i := 3) nd rfl (Or.inl rfl) (pe_callTy (call_listV rfl) rfl M.fr_list (by decide +kernel) (pa_cons (pe_dvalues (pv 1)) pa_nil))) (pss_cons (ps_while PassesOwn.never (pt_truth (pv 3) (by intro _; rfl)) (pss_cons (ps_set (i := 4) nd rfl (Or.inl rfl) (pe_bm0 PySem.F.plainAttrs_list PySem.F.slot_list_pop PySem.F.type_list_pop mt_pop (pv 3))) (pss_one (ps_if (PW.pt (pw_and (pt_cmpR op_lt (pv 4) (pe_callB (call_lenK (K := K) rfl) rfl M.fr_len PySem.boot_len (pa_cons (pv 0) pa_nil)) (nomark _)) (pw_and1 (pt_not (pt_val (pe_ix (ix_listK (K := K) rfl) (pv 2) (pv 4) (fun _ _ => rfl))))))) (pss_cons (ps_asg pe_bl (pg_sub (pv 2) (pv 4) set_list)) (pss_cons (ps_if (pt_cmpR (op_inK (K := K) rfl) (pe_ix (ix_tupK (K := K) rfl) (pe_ix (ix_listK (K := K) rfl) (pv 0) (pv 4) (fun _ _ => rfl)) pe_int (fun _ _ => rfl)) (pe_globR rfl M.gl_PLACED_shortening) (by first | rfl | exact nomark _)) (pss_one (ps_expr (pe_bm PySem.F.plainAttrs_list PySem.F.slot_list_append PySem.F.type_list_append mt_append (pv 3) (pa_cons (pe_ix (ix_tupK (K := K) rfl) (pe_ix (ix_listK (K := K) rfl) (pv 0) (pv 4) (fun _ _ => rfl)) pe_int (fun _ _ => rfl)) pa_nil)))) pss_nil) (pss_one (ps_if (pt_cmpR (op_notInK (K := K) rfl) (pe_ix (ix_tupK (K := K) rfl) (pe_ix (ix_listK (K := K) rfl) (pv 0) (pv 4) (fun _ _ => rfl)) pe_int (fun _ _ => rfl)) (pe_globR rfl M.gl_ENDING) (by first | rfl | exact nomark _)) (pss_one (ps_expr (pe_bm PySem.F.plainAttrs_list PySem.F.slot_list_append PySem.F.type_list_append mt_append (pv 3) (pa_cons (pe_op op_add (pv 4) pe_int) pa_nil)))) pss_nil)))) pss_nil)))) (pss_one (ps_ret (pv 2)))))), ?_⟩
  walk_at "rd"
  refine ⟨sz1, fun b0 hb0 => ?_⟩
  have g0 : Same H (upd H b0 (.lst [.bl false])) := Same.new hb0
  walk_at "rd"
  refine b_lenL (SqL.of (g0 _ _ hl)) ?_
  have hn9 := hv.2.1
  refine ⟨b0, _, _, rfl, rfl, upd_same, by omega, by omega, ?_, fun rb hrb => ?_⟩
  · rw [Int.toNat_natCast]
    exact sz (show 1 * xs.length ≤ 100000 by omega)
  rw [Int.toNat_natCast, hlen]
  have hrep : (List.replicate rs.length [V.bl false]).flatten = (List.replicate rs.length false).map V.bl := by
    generalize rs.length = n
    induction n with
    | zero => rfl
    | succ n ih => rw [List.replicate_succ, List.flatten_cons, ih, List.replicate_succ]; rfl
  rw [hrep]
  have hrb0 := Same.free g0 hrb
  have g1 : Same H (upd (upd H b0 (.lst [.bl false])) rb (.lst ((List.replicate rs.length false).map V.bl))) := Same.more g0 hrb
  have hrb1 : (upd (upd H b0 (.lst [.bl false])) rb (.lst ((List.replicate rs.length false).map V.bl))) rb = some (.lst ((List.replicate rs.length false).map V.bl)) := upd_same
  generalize upd (upd H b0 (.lst [.bl false])) rb (.lst ((List.replicate rs.length false).map V.bl)) = H1 at g1 hrb1 ⊢
  walk_at "rd"
  refine ⟨_, rfl, sa, kvs, rfl, g1 _ _ hs, fun vv hvv => ?_⟩
  walk_at "rd"
  have g2 : Same H1 (upd H1 vv (.ext (fun h => h.IsValuesView vv sa))) := Same.new hvv
  refine b_listV upd_same (g2 _ _ (g1 _ _ hs)) fun wl hwl => ?_
  have g3 := g1.trans (g2.trans (Same.new (o := .lst (kvs.map (·.2))) hwl))
  have hwl0 : H wl = none := Same.free (g1.trans g2) hwl
  have hrb2 := Same.more (o := .lst (kvs.map (·.2))) g2 hwl _ _ hrb1
  have hwl2 : (upd (upd H1 vv (.ext (fun h => h.IsValuesView vv sa))) wl (.lst (kvs.map (·.2)))) wl = some (.lst ((stP kvs).map fun (p : Nat) => V.int (p : Nat))) := by rw [upd_same, stP_V hen]
  have nrw : rb ≠ wl := ne_of_none (g2 _ _ hrb1) hwl
  generalize upd (upd H1 vv (.ext (fun h => h.IsValuesView vv sa))) wl (.lst (kvs.map (·.2))) = H2 at g3 hrb2 hwl2 ⊢
  have hst : ∀ q, fl (List.replicate rs.length false) q = false := fun q => by
    unfold fl
    rw [List.getD_eq_getElem?_getD, List.getElem?_replicate]
    split <;> rfl
  walk_at "rd"
  refine ⟨fun d σ H3 => ∃ bs ws v4, d = (rs.length - cntT bs) * 3 + ws.length ∧ ws.length ≤ 6 + 2 * cntT bs ∧ Same H H3 ∧ H3 rb = some (.lst (bs.map V.bl)) ∧ H3 wl = some (.lst (ws.map fun (p : Nat) => V.int (p : Nat))) ∧ Srch rs (stP kvs) bs ws ∧ σ = [some (.ref la), some (.ref sa), some (.ref rb), some (.ref wl), v4],
    ⟨_, List.replicate rs.length false, stP kvs, none, rfl, ?_, g3, hrb2, hwl2, ⟨by rw [List.length_replicate], fun i hi => ?_, fun i hi hlt => .start hi hlt, fun p hp _ => .inr hp, fun p hp => ?_, fun p hp => ?_⟩, rfl⟩, ?_⟩
  · unfold stP
    rw [List.length_map]
    have := hen.1
    omega
  · rw [hst] at hi; cases hi
  · rw [hst] at hp; cases hp
  · rw [hst] at hp; cases hp
  rintro d σ H3 ⟨bs, ws, v4, rfl, hwb, g4, hbs, hws, S, rfl⟩
  refine ⟨_, rfl, !(ws.map fun (p : Nat) => V.int (p : Nat)).isEmpty, .inl ⟨_, SqL.of hws, rfl⟩, ?_⟩
  have hcb := cntT_le bs
  rw [S.len] at hcb
  rcases List.eq_nil_or_concat ws with rfl | ⟨ws', p, rfl⟩
  · have hz : (!(List.map (fun (p : Nat) => V.int (p : Nat)) []).isEmpty) = false := rfl
    rw [hz]
    walk_at "rd"
    exact q _ _ _ g4 hrb0 hbs S.done
  · have hne : (!(((ws'.concat p).map fun (p : Nat) => V.int (p : Nat)).isEmpty)) = true := by
      rw [List.concat_eq_append, List.map_append]
      simp
    rw [hne]
    rw [List.concat_eq_append] at *
    walk_at "rd"
    refine ⟨fun σ' H' => ∃ d, d < (rs.length - cntT bs) * 3 + (ws' ++ [p]).length ∧ ∃ bs ws v4, d = (rs.length - cntT bs) * 3 + ws.length ∧ ws.length ≤ 6 + 2 * cntT bs ∧ Same H H' ∧ H' rb = some (.lst (bs.map V.bl)) ∧ H' wl = some (.lst (ws.map fun (p : Nat) => V.int (p : Nat))) ∧ Srch rs (stP kvs) bs ws ∧ σ' = [some (.ref la), some (.ref sa), some (.ref rb), some (.ref wl), v4], fun σ' H' ⟨d, h1, h2⟩ => ⟨d, h1, h2⟩, ?_⟩
    rw [List.map_append] at hws
    rw [List.length_append, List.length_singleton] at *
    walk_at "rd"
    refine ⟨.inl ⟨rfl, _, SqL.of hws⟩, wl, _, .int (p : Nat), rfl, rfl, hws, by simp, ?_⟩
    rw [List.map_cons, List.map_nil, List.dropLast_concat]
    have nrl : la ≠ wl := ne_of_none hl hwl0
    have g5 : Same H (upd H3 wl (.lst (ws'.map fun (p : Nat) => V.int (p : Nat)))) := Same.mut g4 hwl0
    have hbs5 : (upd H3 wl (.lst (ws'.map fun (p : Nat) => V.int (p : Nat)))) rb = some (.lst (bs.map V.bl)) := by rw [upd_ne nrw]; exact hbs
    have hws5 : (upd H3 wl (.lst (ws'.map fun (p : Nat) => V.int (p : Nat)))) wl = some (.lst (ws'.map fun (p : Nat) => V.int (p : Nat))) := upd_same
    generalize upd H3 wl (.lst (ws'.map fun (p : Nat) => V.int (p : Nat))) = H5 at g5 hbs5 hws5 ⊢
    walk_at "rd"
    refine b_lenL (SqL.of (g5 _ _ hl)) ?_
    walk_at "rd"
    refine a_ite (fun e1 => ?_) (fun e1 => ?_)
    · have hp : p < rs.length := by omega
      have hpb : p < bs.length := by rw [S.len]; exact hp
      walk_at "rd"
      refine a_ixL (SqL.of hbs5) (atI_nat (by rw [List.getElem?_map, fl_at hpb]; rfl)) ?_
      walk_at "rd"
      refine a_iteBN (fun e2 => ?_) (fun e2 => ?_)
      · obtain ⟨r, hr3, hrm, hw, ht⟩ := wA_of hp
        obtain ⟨a, hxa, hsa⟩ := hr2.at hr3
        have htl : plB (wA rs p) = true → tA rs p < rs.length := fun z => by rw [ht]; exact (pl_x hv hrm (by rw [← hw]; exact z)).2
        have hcs := cntT_set hpb e2
        have hc2 : cntT (bs.set p true) ≤ rs.length := by have := cntT_le (bs.set p true); rw [List.length_set, S.len] at this; exact this
        walk_at "rd"
        refine b_set hbs5 (by rw [List.length_map]; exact hpb) ?_
        have hse : (bs.map V.bl).set p (.bl true) = (bs.set p true).map V.bl := by rw [List.map_set]
        rw [hse]
        have g6 : Same H (upd H5 rb (.lst ((bs.set p true).map V.bl))) := Same.mut g5 hrb0
        have hb6 : (upd H5 rb (.lst ((bs.set p true).map V.bl))) rb = some (.lst ((bs.set p true).map V.bl)) := upd_same
        have hw6 : (upd H5 rb (.lst ((bs.set p true).map V.bl))) wl = some (.lst (ws'.map fun (p : Nat) => V.int (p : Nat))) := by rw [upd_ne nrw.symm]; exact hws5
        generalize upd H5 rb (.lst ((bs.set p true).map V.bl)) = H6 at g6 hb6 hw6 ⊢
        walk_at "rd"
        refine a_ixL (SqL.of (g6 _ _ hl)) (atI_nat hxa) ?_
        walk_at "rd"
        refine a_ixT (Same.seqT g6 hsa) atI0 ?_
        walk_at "rd"
        cases hp1 : plB r.w with
        | true =>
          obtain ⟨hx, _⟩ := pl_x hv hrm hp1
          refine b_inT (M.tp_PLACED_shortening _) rfl (by decide +kernel) (b := true) hp1 ?_
          walk_at "rd"
          refine b_appendE hw6 ?_
          walk_at "rd"
          refine a_ixL (SqL.of (g6 _ _ hl)) (atI_nat hxa) ?_
          walk_at "rd"
          refine a_ixT (Same.seqT g6 hsa) (atI1 hx) ?_
          walk_at "rd"
          refine b_app hw6 (by rw [List.length_map]; omega) ?_
          have g7 : Same H (upd H6 wl (.lst (ws'.map (fun (p : Nat) => V.int (p : Nat)) ++ [.int (tgt r : Nat)]))) := Same.mut g6 hwl0
          have hb7 : (upd H6 wl (.lst (ws'.map (fun (p : Nat) => V.int (p : Nat)) ++ [.int (tgt r : Nat)]))) rb = some (.lst ((bs.set p true).map V.bl)) := by rw [upd_ne nrw]; exact hb6
          have hw7 : (upd H6 wl (.lst (ws'.map (fun (p : Nat) => V.int (p : Nat)) ++ [.int (tgt r : Nat)]))) wl = some (.lst ((ws' ++ [tgt r]).map fun (p : Nat) => V.int (p : Nat))) := by rw [upd_same, List.map_append]; rfl
          generalize upd H6 wl (.lst (ws'.map (fun (p : Nat) => V.int (p : Nat)) ++ [.int (tgt r : Nat)])) = H7 at g7 hb7 hw7 ⊢
          · walk_at "rd"
            refine a_ixL (SqL.of (g7 _ _ hl)) (atI_nat hxa) ?_
            walk_at "rd"
            refine a_ixT (Same.seqT g7 hsa) atI0 ?_
            walk_at "rd"
            cases he : endB r.w with
            | true =>
              refine b_niT (M.tp_ENDING _) rfl (by decide +kernel) (b := true) he ?_
              walk_at "rd"
              refine ⟨_, ?_, bs.set p true, ws' ++ [tgt r], _, rfl, ?_, g7, hb7, hw7, ?_, rfl⟩
              · rw [hcs]; simp only [List.length_append, List.length_cons, List.length_nil]; omega
              · rw [hcs]; simp only [List.length_append, List.length_cons, List.length_nil]; omega
              · have := S.take hp htl
                unfold adds at this
                rw [hw, ht, if_pos hp1, if_neg (by rw [he]; exact Bool.noConfusion), List.append_nil] at this
                exact this
            | false =>
              refine b_niT (M.tp_ENDING _) rfl (by decide +kernel) (b := false) he ?_
              walk_at "rd"
              refine b_appendE hw7 ?_
              walk_at "rd"
              refine b_app hw7 (by rw [List.length_map]; simp only [List.length_append, List.length_cons, List.length_nil]; omega) ?_
              refine ⟨_, ?_, bs.set p true, ws' ++ [tgt r] ++ [p + 1], _, rfl, ?_, Same.mut g7 hwl0, by rw [upd_ne nrw]; exact hb7, ?_, ?_, rfl⟩
              · rw [hcs]; simp only [List.length_append, List.length_cons, List.length_nil]; omega
              · rw [hcs]; simp only [List.length_append, List.length_cons, List.length_nil]; omega
              · rw [upd_same, List.map_append (l₁ := ws' ++ [tgt r])]; rfl
              · have := S.take hp htl
                unfold adds at this
                rw [hw, ht, if_pos hp1, if_pos he, ← List.append_assoc] at this
                exact this
        | false =>
          refine b_inT (M.tp_PLACED_shortening _) rfl (by decide +kernel) (b := false) hp1 ?_
          have g7 := g6
          have hb7 := hb6
          have hw7 : H6 wl = some (.lst ((ws' ++ []).map fun (p : Nat) => V.int (p : Nat))) := by rw [List.append_nil]; exact hw6
          · walk_at "rd"
            refine a_ixL (SqL.of (g7 _ _ hl)) (atI_nat hxa) ?_
            walk_at "rd"
            refine a_ixT (Same.seqT g7 hsa) atI0 ?_
            walk_at "rd"
            cases he : endB r.w with
            | true =>
              refine b_niT (M.tp_ENDING _) rfl (by decide +kernel) (b := true) he ?_
              walk_at "rd"
              refine ⟨_, ?_, bs.set p true, ws' ++ [], _, rfl, ?_, g7, hb7, hw7, ?_, rfl⟩
              · rw [hcs]; simp only [List.length_append, List.length_cons, List.length_nil]; omega
              · rw [hcs]; simp only [List.length_append, List.length_cons, List.length_nil]; omega
              · have := S.take hp htl
                unfold adds at this
                rw [hw, ht, if_neg (by rw [hp1]; exact Bool.noConfusion), if_neg (by rw [he]; exact Bool.noConfusion), List.append_nil] at this
                exact this
            | false =>
              refine b_niT (M.tp_ENDING _) rfl (by decide +kernel) (b := false) he ?_
              walk_at "rd"
              refine b_appendE hw7 ?_
              walk_at "rd"
              refine b_app hw7 (by rw [List.length_map]; simp only [List.length_append, List.length_cons, List.length_nil]; omega) ?_
              refine ⟨_, ?_, bs.set p true, ws' ++ [] ++ [p + 1], _, rfl, ?_, Same.mut g7 hwl0, by rw [upd_ne nrw]; exact hb7, ?_, ?_, rfl⟩
              · rw [hcs]; simp only [List.length_append, List.length_cons, List.length_nil]; omega
              · rw [hcs]; simp only [List.length_append, List.length_cons, List.length_nil]; omega
              · rw [upd_same, List.map_append (l₁ := ws' ++ [])]; rfl
              · have := S.take hp htl
                unfold adds at this
                rw [hw, ht, if_neg (by rw [hp1]; exact Bool.noConfusion), if_pos he, ← List.append_assoc] at this
                exact this
      · walk_at "rd"
        exact ⟨_, by omega, bs, ws', _, rfl, by omega, g5, hbs5, hws5, S.skip fun _ => e2, rfl⟩
    · walk_at "rd"
      exact ⟨_, by omega, bs, ws', _, rfl, by omega, g5, hbs5, hws5, S.skip fun h => absurd h (by omega), rfl⟩
end

end T51

set_option Elab.async false
set_option linter.all false
set_option maxRecDepth 100000
set_option maxHeartbeats 4000000
namespace T51
open PySem PySem.Spec PyProof.Rows L2
local macro_rules | `(tactic| walk_at "rd1") => `(tactic| with_reducible first
  | refine a_seq ?_ | refine a_var rfl ?_ | refine a_c ?_ | refine a_op ?_ | refine a_cons ?_ | refine a_nil ?_ | refine a_cb ?_ | refine a_asg ?_ | refine a_gname ?_ | refine a_ret ?_
  | refine a_if ?_ | refine a_test ?_ | refine a_tB ?_ | refine a_blP ?_ | refine a_and ?_ | refine a_or ?_ | refine a_not ?_ | refine a_andV ?_ | refine a_orV ?_ | refine a_notV ?_ | refine a_ifE ?_
  | refine a_rI0 ?_ | refine a_eqS ?_ | refine a_eqI ?_ | refine a_neS ?_ | refine a_neI ?_ | refine a_call ?_ | refine a_tup ?_ | refine a_lst ?_ | refine a_chain ?_ | refine a_iteT ?_ | refine a_iteF ?_ | refine a_iteNT ?_ | refine a_iteNF ?_
  | refine a_drop ?_ | refine a_next ?_ | refine a_cont ?_ | refine a_break ?_ | refine a_retN ?_ | refine a_ipI ?_ | refine a_aug rfl ?_ | refine a_bm ?_ | refine a_bm0 ?_ | refine b_ord ?_ | refine b_int ?_ | refine b_isN ?_ | refine b_notN ?_ | refine a_un ?_ | refine b_rU ?_ | refine a_fld ?_ | refine a_sfld ?_ | refine a_meth ?_ | refine a_make ?_
  | refine a_dget ?_ | refine a_din ?_ | refine a_dnin ?_ | refine a_dput ?_ | refine a_yes ?_ | refine a_gsub ?_)
local macro_rules | `(tactic| walk_at "is") => `(tactic| with_reducible first
  | refine a_isi_int_int ?_ | refine a_isi_int_bool ?_ | refine a_isi_int_str ?_ | refine a_isi_int_list ?_ | refine a_isi_int_tuple ?_ | refine a_isi_int_dict ?_
  | refine a_isi_bl_int ?_ | refine a_isi_bl_bool ?_ | refine a_isi_bl_str ?_ | refine a_isi_bl_list ?_ | refine a_isi_bl_tuple ?_ | refine a_isi_bl_dict ?_
  | refine a_isi_str_int ?_ | refine a_isi_str_bool ?_ | refine a_isi_str_str ?_ | refine a_isi_str_list ?_ | refine a_isi_str_tuple ?_ | refine a_isi_str_dict ?_
  | refine a_isi_non_int ?_ | refine a_isi_non_bool ?_ | refine a_isi_non_str ?_ | refine a_isi_non_list ?_ | refine a_isi_non_tuple ?_ | refine a_isi_non_dict ?_)
local macro_rules | `(tactic| walk_at "rd") => `(tactic| repeat (walk_at "rd1"))
local macro_rules | `(tactic| walk_at "hp") => `(tactic| first
  | with_reducible assumption
  | with_reducible exact upd_same
  | (with_reducible refine SqL.of ?_; walk_at "hp")
  | (with_reducible refine SqT.of ?_; walk_at "hp")
  | (with_reducible refine Eq.trans (upd_ne ?_) ?_; rotate_left; focus (walk_at "hp"); walk_at "ne")
  | (with_reducible refine (by with_reducible assumption : Same _ _) _ _ ?_; walk_at "hp"))
local macro_rules | `(tactic| walk_at "ne") => `(tactic| first
  | with_reducible assumption
  | with_reducible exact Ne.symm (by with_reducible assumption)
  | (with_reducible refine ne_of_none ?_ (by with_reducible assumption); walk_at "hp")
  | (with_reducible refine Ne.symm (ne_of_none ?_ (by with_reducible assumption)); walk_at "hp"))
local macro_rules | `(tactic| walk_at "rc") => `(tactic| with_reducible first
  | refine a_s1 ?_ | refine a_s2 ?_ | refine a_s3 ?_ | refine a_s4 ?_ | refine a_s0 ?_ | refine a_m1 ?_ | refine a_m2 ?_ | refine a_m3 ?_ | refine a_m4 ?_)
local macro_rules | `(tactic| walk_at "rx1") => `(tactic| with_reducible first
  | refine a_var rfl ?_ | refine a_c ?_ | refine a_op ?_ | refine a_cons ?_ | refine a_nil ?_ | refine a_cb ?_ | refine a_asg ?_ | refine a_gname ?_ | refine a_ret ?_
  | refine a_if ?_ | refine a_test ?_ | refine a_tB ?_ | refine a_blP ?_ | refine a_and ?_ | refine a_or ?_ | refine a_not ?_ | refine a_andV ?_ | refine a_orV ?_ | refine a_notV ?_ | refine a_ifE ?_
  | refine a_rI0 ?_ | refine a_eqS ?_ | refine a_eqI ?_ | refine a_neS ?_ | refine a_neI ?_ | refine a_call ?_ | refine a_tup ?_ | refine a_lst ?_ | refine a_chain ?_ | refine a_iteT ?_ | refine a_iteF ?_ | refine a_iteNT ?_ | refine a_iteNF ?_
  | refine a_drop ?_ | refine a_next ?_ | refine a_cont ?_ | refine a_break ?_ | refine a_retN ?_ | refine a_ipI ?_ | refine a_aug rfl ?_ | refine a_bm ?_ | refine a_bm0 ?_ | refine b_ord ?_ | refine b_int ?_ | refine b_isN ?_ | refine b_notN ?_ | refine a_un ?_ | refine b_rU ?_ | refine a_fld ?_ | refine a_sfld ?_ | refine a_meth ?_ | refine a_make ?_
  | refine a_dget ?_ | refine a_din ?_ | refine a_dnin ?_ | refine a_dput ?_ | refine a_yes ?_ | refine a_gsub ?_)
local macro_rules | `(tactic| walk_at "rx") => `(tactic| repeat (walk_at "rx1"))
/-! ### instructions as data -/
def datV : V → PyData
  | .bl b => .bool b
  | .int i => .int i
  | .str z => .str z
  | _ => .none
def insD (r : Ins) : PyData := .tuple (match r.x with
  | none => [.str r.w]
  | some v => [.str r.w, datV v])
def goodV : V → Bool
  | .non => true
  | .int _ => true
  | .str z => PyData.strOk z
  | _ => false
def goodI (r : Ins) : Bool := PyData.strOk r.w && (match r.x with
  | none => true
  | some v => goodV v)
def allW : List Str := ["drop", "fail", "open", "shut", "counter", "mark", "back", "out", "fall", "yield", "ask", "scan", "leave", "jump", "retry", "any", "keep", "name", "give", "lend", "worth", "deed", "rows", "list", "call", "tick"]
theorem allW_ok : ∀ w ∈ allW, PyData.strOk w = true := by decide +kernel
theorem ok_word {n : Int} {r : Ins} (h : okIns n r = true) : r.w ∈ allW := by
  obtain ⟨w, x⟩ := r
  cases x with
  | none =>
    exact (show ∀ y ∈ (["drop", "fail", "open", "shut", "counter", "mark", "back", "out", "fall", "yield", "ask", "scan", "leave"] : List Str), y ∈ allW by decide +kernel) w (in_strs (zs := ["drop", "fail", "open", "shut", "counter", "mark", "back", "out", "fall", "yield", "ask", "scan", "leave"]) h)
  | some v =>
    have h' : argOk w v n = true := h
    show w ∈ allW
    unfold argOk at h'
    by_cases c1 : w = "worth"
    · subst c1; decide +kernel
    rw [if_neg c1] at h'
    by_cases c2 : inV (.str w) tv_NAMED = true
    · exact (show ∀ y ∈ (["name", "give", "lend"] : List Str), y ∈ allW by decide +kernel) w (in_strs (zs := ["name", "give", "lend"]) c2)
    rw [if_neg c2] at h'
    by_cases c3 : inV (.str w) tv_PLACED_codes = true
    · exact (show ∀ y ∈ (["jump", "retry", "any", "keep"] : List Str), y ∈ allW by decide +kernel) w (in_strs (zs := ["jump", "retry", "any", "keep"]) c3)
    rw [if_neg c3] at h'
    by_cases c4 : w = "deed"
    · subst c4; decide +kernel
    rw [if_neg c4] at h'
    by_cases c5 : w = "rows"
    · subst c5; decide +kernel
    rw [if_neg c5] at h'
    by_cases c6 : w = "list"
    · subst c6; decide +kernel
    rw [if_neg c6] at h'
    by_cases c7 : w = "call"
    · subst c7; decide +kernel
    rw [if_neg c7] at h'
    by_cases c8 : w = "tick"
    · subst c8; decide +kernel
    rw [if_neg c8] at h'
    cases h'
theorem strOk_all {z : Str} {f : Nat → Bool} (hf : ∀ c, f c = true → c < 0x110000) (h : z.cps.toList.all f = true) : PyData.strOk z = true := by
  unfold PyData.strOk
  rw [← Array.all_toList]
  rw [List.all_eq_true] at h ⊢
  intro c hc
  exact decide_eq_true (hf c (h c hc))
theorem intIn_good {v : V} {l u : Int} (h : intIn v l u = true) : goodV v = true := by
  cases v with
  | int i => rfl
  | _ => cases h
theorem const_good {v : V} (h : constB v = true) : goodV v = true := by
  cases v with
  | non => rfl
  | int i => rfl
  | str z =>
    have h2 : (decide (V.str z = V.non) || (false || (decide (z.length ≤ 20) && z.cps.toList.all charB))) = true := h
    rw [decide_eq_false (by intro e; cases e)] at h2
    simp only [Bool.false_or, Bool.and_eq_true, decide_eq_true_eq] at h2
    refine strOk_all (fun c hc => ?_) h2.2
    unfold charB at hc
    simp only [Bool.and_eq_true, decide_eq_true_eq] at hc
    omega
  | bl b => cases h
  | _ => cases h
theorem key_good {kvs : List (Str × He.Dv)} {v : V} (hk : ∀ q ∈ kvs, PyData.strOk q.1 = true) (h : keyB kvs v = true) : goodV v = true := by
  cases v with
  | str z =>
    have e2 : (kvs.any fun q => decide (q.1 = z)) = true := h
    obtain ⟨q, hq, e3⟩ := List.any_eq_true.mp e2
    have e4 : q.1 = z := of_decide_eq_true e3
    subst e4
    exact hk q hq
  | _ => cases h
theorem ok_val {n : Int} {r : Ins} {v : V} (h : okIns n r = true) (e : r.x = some v) : goodV v = true := by
  obtain ⟨w, x⟩ := r
  have e' : x = some v := e
  subst e'
  have h' : argOk w v n = true := h
  unfold argOk at h'
  by_cases c1 : w = "worth"
  · rw [if_pos c1] at h'; exact const_good h'
  rw [if_neg c1] at h'
  by_cases c2 : inV (.str w) tv_NAMED = true
  · rw [if_pos c2] at h'
    cases v with
    | str z =>
      have h2 : nameB z = true := h'
      unfold nameB at h2
      simp only [Bool.and_eq_true, decide_eq_true_eq] at h2
      refine strOk_all (fun c hc => ?_) h2.2.2.1
      unfold lowerB at hc
      simp only [Bool.and_eq_true, decide_eq_true_eq] at hc
      omega
    | _ => cases h'
  rw [if_neg c2] at h'
  by_cases c3 : inV (.str w) tv_PLACED_codes = true
  · rw [if_pos c3] at h'; exact intIn_good h'
  rw [if_neg c3] at h'
  by_cases c4 : w = "deed"
  · rw [if_pos c4] at h'; exact key_good (by decide +kernel) h'
  rw [if_neg c4] at h'
  by_cases c5 : w = "rows"
  · rw [if_pos c5] at h'; exact key_good (by decide +kernel) h'
  rw [if_neg c5] at h'
  by_cases c6 : w = "list"
  · rw [if_pos c6] at h'; exact intIn_good h'
  rw [if_neg c6] at h'
  by_cases c7 : w = "call"
  · rw [if_pos c7] at h'; exact intIn_good h'
  rw [if_neg c7] at h'
  by_cases c8 : w = "tick"
  · rw [if_pos c8] at h'; exact intIn_good h'
  rw [if_neg c8] at h'
  cases h'
theorem ok_good {n : Int} {r : Ins} (h : okIns n r = true) : goodI r = true := by
  unfold goodI
  rw [allW_ok _ (ok_word h), Bool.true_and]
  cases e : r.x with
  | none => rfl
  | some v => exact ok_val h e
theorem goodV_dat {v : V} (h : goodV v = true) : PyData.canLay0 (datV v) = true ∧ PyData.depth (datV v) = 0 := by
  cases v with
  | non => exact ⟨by unfold datV PyData.canLay0; rfl, by unfold datV PyData.depth; rfl⟩
  | int i => exact ⟨by unfold datV PyData.canLay0; rfl, by unfold datV PyData.depth; rfl⟩
  | str z => exact ⟨by unfold datV PyData.canLay0; exact h, by unfold datV PyData.depth; rfl⟩
  | _ => cases h
theorem goodI_dat {r : Ins} (h : goodI r = true) : PyData.canLay0 (insD r) = true ∧ PyData.depth (insD r) ≤ 1 := by
  unfold goodI at h
  obtain ⟨h1, h2⟩ := Bool.and_eq_true_iff.mp h
  cases e : r.x with
  | none =>
    unfold insD
    rw [e]
    constructor
    · simp only [PyData.canLay0, PyData.canLayAll0, h1, Bool.and_self]
    · simp [PyData.depth, PyData.depthAll]
  | some v =>
    rw [e] at h2
    obtain ⟨h3, h4⟩ := goodV_dat h2
    unfold insD
    rw [e]
    constructor
    · simp only [PyData.canLay0, PyData.canLayAll0, h1, h3, Bool.and_self]
    · simp [PyData.depth, PyData.depthAll, h4]
theorem ins_shaped {r : Ins} (h : goodI r = true) : SeqAt.shaped (insD r) = true := by
  obtain ⟨h1, h2⟩ := goodI_dat h
  unfold SeqAt.shaped
  rw [h1, Bool.true_and]
  exact decide_eq_true (by omega)
theorem list_canLay : ∀ {rs : List Ins}, (∀ r ∈ rs, goodI r = true) → PyData.canLayAll0 (rs.map insD) = true ∧ PyData.depthAll (rs.map insD) ≤ 1
  | [], _ => ⟨by simp [PyData.canLayAll0], by simp [PyData.depthAll]⟩
  | r :: rs, h => by
    obtain ⟨h1, h2⟩ := goodI_dat (h r (List.mem_cons_self ..))
    obtain ⟨h3, h4⟩ := list_canLay fun x hx => h x (List.mem_cons_of_mem _ hx)
    rw [List.map_cons]
    refine ⟨by simp only [PyData.canLayAll0, h1, h3, Bool.and_self], ?_⟩
    simp only [PyData.depthAll]
    omega
theorem list_shaped {rs : List Ins} (h : ∀ r ∈ rs, goodI r = true) : SeqAt.shaped (.list (rs.map insD)) = true := by
  obtain ⟨h1, h2⟩ := list_canLay h
  unfold SeqAt.shaped
  rw [show PyData.canLay0 (.list (rs.map insD)) = true by simp only [PyData.canLay0, h1], Bool.true_and]
  refine decide_eq_true ?_
  simp only [PyData.depth]
  omega
theorem eqv_V {u v : V} (hu : goodV u = true) (hv : goodV v = true) : PyData.eqv (datV u) (datV v) = decide (u = v) := by
  cases u <;> cases v <;> first | (cases hu; done) | (cases hv; done) | (simp [datV, PyData.eqv]; done) | (simp only [datV, PyData.eqv]; simp [Bool.beq_eq_decide_eq]; done) | skip
theorem eqv_ins {r s : Ins} (hr : goodI r = true) (hs : goodI s = true) : PyData.eqv (insD r) (insD s) = decide (r = s) := by
  obtain ⟨w, x⟩ := r
  obtain ⟨v, y⟩ := s
  obtain ⟨_, h1⟩ := Bool.and_eq_true_iff.mp hr
  obtain ⟨_, h2⟩ := Bool.and_eq_true_iff.mp hs
  cases x with
  | none =>
    cases y with
    | none => simp [insD, PyData.eqv, PyData.eqvAll]; rfl
    | some b => simp [insD, PyData.eqv, PyData.eqvAll]
  | some a =>
    cases y with
    | none => simp [insD, PyData.eqv, PyData.eqvAll]
    | some b =>
      have h3 := eqv_V (show goodV a = true from h1) (show goodV b = true from h2)
      simp only [insD, PyData.eqv, PyData.eqvAll, h3]
      simp
      rfl
theorem eqv_rows : ∀ {rs ss : List Ins}, (∀ r ∈ rs, goodI r = true) → (∀ r ∈ ss, goodI r = true) → PyData.eqvAll (rs.map insD) (ss.map insD) = decide (rs = ss)
  | [], [], _, _ => by simp [PyData.eqvAll]
  | [], s :: ss, _, _ => by simp [PyData.eqvAll]
  | r :: rs, [], _, _ => by simp [PyData.eqvAll]
  | r :: rs, s :: ss, h1, h2 => by
    have e1 := eqv_ins (h1 r (List.mem_cons_self ..)) (h2 s (List.mem_cons_self ..))
    have e2 := eqv_rows (rs := rs) (ss := ss) (fun x hx => h1 x (List.mem_cons_of_mem _ hx)) fun x hx => h2 x (List.mem_cons_of_mem _ hx)
    simp only [List.map_cons, PyData.eqvAll, e1, e2]
    simp
theorem Valid.good {rs : List Ins} (h : Valid rs) : ∀ r ∈ rs, goodI r = true := fun r hr => ok_good (h.2.2 r hr)
section
variable {K : PySem.W.Frag} {H : Hp}
theorem Dp_V {v : V} (h : goodV v = true) : Dp K H v (datV v) := by
  cases v with
  | non => exact .non
  | int i => exact .int i
  | str z => exact .str z
  | _ => cases h
theorem Dp_ins {r : Ins} {a : Addr} (h : goodI r = true) (e : SqT K H a (insV r)) : Dp K H (.ref a) (insD r) := by
  unfold goodI at h
  obtain ⟨h1, h2⟩ := Bool.and_eq_true_iff.mp h
  obtain ⟨w, x⟩ := r
  cases x with
  | none => exact .tup e (.cons (.str _) .nil)
  | some v => exact .tup e (.cons (.str _) (.cons (Dp_V h2) .nil))
theorem Dp_rows : ∀ {rs : List Ins} {xs : List V}, (∀ r ∈ rs, goodI r = true) → Rows K H xs rs → DpAll K H xs (rs.map insD)
  | _, _, _, .nil => .nil
  | _, _, h, .cons ⟨a, e, h1⟩ h2 => by
    subst e
    exact .cons (Dp_ins (h _ (List.mem_cons_self ..)) h1) (Dp_rows (fun x hx => h x (List.mem_cons_of_mem _ hx)) h2)
end

end T51

set_option Elab.async false
set_option linter.all false
set_option maxRecDepth 100000
set_option maxHeartbeats 4000000
namespace T51
open PySem PySem.Spec PyProof.Rows L2
local macro_rules | `(tactic| walk_at "rd1") => `(tactic| with_reducible first
  | refine a_seq ?_ | refine a_var rfl ?_ | refine a_c ?_ | refine a_op ?_ | refine a_cons ?_ | refine a_nil ?_ | refine a_cb ?_ | refine a_asg ?_ | refine a_gname ?_ | refine a_ret ?_
  | refine a_if ?_ | refine a_test ?_ | refine a_tB ?_ | refine a_blP ?_ | refine a_and ?_ | refine a_or ?_ | refine a_not ?_ | refine a_andV ?_ | refine a_orV ?_ | refine a_notV ?_ | refine a_ifE ?_
  | refine a_rI0 ?_ | refine a_eqS ?_ | refine a_eqI ?_ | refine a_neS ?_ | refine a_neI ?_ | refine a_call ?_ | refine a_tup ?_ | refine a_lst ?_ | refine a_chain ?_ | refine a_iteT ?_ | refine a_iteF ?_ | refine a_iteNT ?_ | refine a_iteNF ?_
  | refine a_drop ?_ | refine a_next ?_ | refine a_cont ?_ | refine a_break ?_ | refine a_retN ?_ | refine a_ipI ?_ | refine a_aug rfl ?_ | refine a_bm ?_ | refine a_bm0 ?_ | refine b_ord ?_ | refine b_int ?_ | refine b_isN ?_ | refine b_notN ?_ | refine a_un ?_ | refine b_rU ?_ | refine a_fld ?_ | refine a_sfld ?_ | refine a_meth ?_ | refine a_make ?_
  | refine a_dget ?_ | refine a_din ?_ | refine a_dnin ?_ | refine a_dput ?_ | refine a_yes ?_ | refine a_gsub ?_)
local macro_rules | `(tactic| walk_at "is") => `(tactic| with_reducible first
  | refine a_isi_int_int ?_ | refine a_isi_int_bool ?_ | refine a_isi_int_str ?_ | refine a_isi_int_list ?_ | refine a_isi_int_tuple ?_ | refine a_isi_int_dict ?_
  | refine a_isi_bl_int ?_ | refine a_isi_bl_bool ?_ | refine a_isi_bl_str ?_ | refine a_isi_bl_list ?_ | refine a_isi_bl_tuple ?_ | refine a_isi_bl_dict ?_
  | refine a_isi_str_int ?_ | refine a_isi_str_bool ?_ | refine a_isi_str_str ?_ | refine a_isi_str_list ?_ | refine a_isi_str_tuple ?_ | refine a_isi_str_dict ?_
  | refine a_isi_non_int ?_ | refine a_isi_non_bool ?_ | refine a_isi_non_str ?_ | refine a_isi_non_list ?_ | refine a_isi_non_tuple ?_ | refine a_isi_non_dict ?_)
local macro_rules | `(tactic| walk_at "rd") => `(tactic| repeat (walk_at "rd1"))
local macro_rules | `(tactic| walk_at "hp") => `(tactic| first
  | with_reducible assumption
  | with_reducible exact upd_same
  | (with_reducible refine SqL.of ?_; walk_at "hp")
  | (with_reducible refine SqT.of ?_; walk_at "hp")
  | (with_reducible refine Eq.trans (upd_ne ?_) ?_; rotate_left; focus (walk_at "hp"); walk_at "ne")
  | (with_reducible refine (by with_reducible assumption : Same _ _) _ _ ?_; walk_at "hp"))
local macro_rules | `(tactic| walk_at "ne") => `(tactic| first
  | with_reducible assumption
  | with_reducible exact Ne.symm (by with_reducible assumption)
  | (with_reducible refine ne_of_none ?_ (by with_reducible assumption); walk_at "hp")
  | (with_reducible refine Ne.symm (ne_of_none ?_ (by with_reducible assumption)); walk_at "hp"))
local macro_rules | `(tactic| walk_at "rc") => `(tactic| with_reducible first
  | refine a_s1 ?_ | refine a_s2 ?_ | refine a_s3 ?_ | refine a_s4 ?_ | refine a_s0 ?_ | refine a_m1 ?_ | refine a_m2 ?_ | refine a_m3 ?_ | refine a_m4 ?_)
local macro_rules | `(tactic| walk_at "rx1") => `(tactic| with_reducible first
  | refine a_var rfl ?_ | refine a_c ?_ | refine a_op ?_ | refine a_cons ?_ | refine a_nil ?_ | refine a_cb ?_ | refine a_asg ?_ | refine a_gname ?_ | refine a_ret ?_
  | refine a_if ?_ | refine a_test ?_ | refine a_tB ?_ | refine a_blP ?_ | refine a_and ?_ | refine a_or ?_ | refine a_not ?_ | refine a_andV ?_ | refine a_orV ?_ | refine a_notV ?_ | refine a_ifE ?_
  | refine a_rI0 ?_ | refine a_eqS ?_ | refine a_eqI ?_ | refine a_neS ?_ | refine a_neI ?_ | refine a_call ?_ | refine a_tup ?_ | refine a_lst ?_ | refine a_chain ?_ | refine a_iteT ?_ | refine a_iteF ?_ | refine a_iteNT ?_ | refine a_iteNF ?_
  | refine a_drop ?_ | refine a_next ?_ | refine a_cont ?_ | refine a_break ?_ | refine a_retN ?_ | refine a_ipI ?_ | refine a_aug rfl ?_ | refine a_bm ?_ | refine a_bm0 ?_ | refine b_ord ?_ | refine b_int ?_ | refine b_isN ?_ | refine b_notN ?_ | refine a_un ?_ | refine b_rU ?_ | refine a_fld ?_ | refine a_sfld ?_ | refine a_meth ?_ | refine a_make ?_
  | refine a_dget ?_ | refine a_din ?_ | refine a_dnin ?_ | refine a_dput ?_ | refine a_yes ?_ | refine a_gsub ?_)
local macro_rules | `(tactic| walk_at "rx") => `(tactic| repeat (walk_at "rx1"))
section
variable {P : Program} {w : World} {K : PySem.W.Frag} {mg : Str → Option Value} {base : Heap}
/-! ### what is named -/
theorem rep_false (n : Nat) : (List.replicate n [V.bl false]).flatten = (List.replicate n false).map V.bl := by
  induction n with
  | zero => rfl
  | succ n ih => rw [List.replicate_succ, List.flatten_cons, ih, List.replicate_succ]; rfl
theorem fl_rep (n q : Nat) : fl (List.replicate n false) q = false := by
  unfold fl
  rw [List.getD_eq_getElem?_getD, List.getElem?_replicate]
  split <;> rfl
theorem map_setT {bs : List Bool} {p : Nat} {b : Bool} : (bs.map V.bl).set p (.bl b) = (bs.set p b).map V.bl := by rw [List.map_set]
/-- what names a place -/
def Names (rs : List Ins) (ss : List Nat) (i : Nat) : Prop := i ∈ ss ∨ ∃ k, k < rs.length ∧ plB (wA rs k) = true ∧ tA rs k = i
abbrev N_named_places : List Str := ["lines", "starts", "reached", "named", "at"]
abbrev S_named_places : Scope := defScope (top 55)
theorem sc_named_places : FnScope N_named_places ["lines", "starts", "reached"] (defScope (top 55)) := ⟨rfl, rfl, rfl, by decide +kernel, rfl, by decide +kernel, by decide +kernel⟩
def f_named (K : PySem.W.Frag) (l s r : V) (H : Hp) (Q : VK) : Prop := ∃ rs sa kvs ra, ∃ bs : List Bool, LnAt K H l rs ∧ Valid rs ∧ s = .ref sa ∧ H sa = some (.dK kvs) ∧ EnOk kvs rs.length ∧ r = .ref ra ∧ H ra = some (.lst (bs.map V.bl)) ∧ bs.length = rs.length ∧
  ∀ v (nm : List Bool) H', Same H H' → H v = none → H' v = some (.lst (nm.map V.bl)) → nm.length = rs.length → (∀ i, fl nm i = true → Names rs (stP kvs) i) → Q (.ref v) H'
theorem ok_named (M : Md w K mg) : Cal P w K mg base 1 "named_places" ["lines", "starts", "reached"] (s3 (f_named K)) := by
  obtain ⟨fd, F⟩ := M.fd_named_places
  refine ⟨⟨_, fd, fn_of_d F sc_named_places s3_len (fun cdv A outer s H vs Q E hr h => ?_), M.gl_named_places, F.kp, F.bindsN fun _ _ _ _ _ _ us hl => match us, hl with | [_, _, _], _ => rfl⟩⟩
  have hu := hu_of hr
  have nd := sc_named_places.nd
  obtain ⟨_, _, _, rfl, rs, sa, kvs, ra, bs, ⟨la, xs, rfl, hl, hr2⟩, hv, rfl, hs, hen, rfl, hra, hbl, q⟩ := h
  have hlen := hr2.len
  have hn9 := hv.2.1
  refine ⟨_, (pss_cons (ps_set (i := 3) nd rfl (Or.inl rfl) (pe_op op_rep (pe_lst (pa_cons pe_bl pa_nil)) (pe_callB (call_lenK (K := K) rfl) rfl M.fr_len PySem.boot_len (pa_cons (pv 0) pa_nil)))) (pss_cons (ps_lock (ps_for PassesOwn.never rfl (pi_values (pv 1)) (pg_name (i := 4) nd rfl (Or.inl rfl)) (pss_one (ps_asg pe_bl (pg_sub (pv 3) (pv 4) set_list))))) (pss_cons (ps_for PassesOwn.never rfl (pi_range1 rfl M.fr_range (pa_cons (pe_callB (call_lenK (K := K) rfl) rfl M.fr_len PySem.boot_len (pa_cons (pv 0) pa_nil)) pa_nil)) (pg_name (i := 4) nd rfl (Or.inl rfl)) (pss_one (ps_if (PW.pt (pw_and (pt_val (pe_ix (ix_listK (K := K) rfl) (pv 2) (pv 4) (fun _ _ => rfl))) (pw_and1 (pt_cmpR (op_inK (K := K) rfl) (pe_ix (ix_tupK (K := K) rfl) (pe_ix (ix_listK (K := K) rfl) (pv 0) (pv 4) (fun _ _ => rfl)) pe_int (fun _ _ => rfl)) (pe_globR rfl M.gl_PLACED_shortening) (by first | rfl | exact nomark _))))) (pss_one (ps_asg pe_bl (pg_sub (pv 3) (pe_ix (ix_tupK (K := K) rfl) (pe_ix (ix_listK (K := K) rfl) (pv 0) (pv 4) (fun _ _ => rfl)) pe_int (fun _ _ => rfl)) set_list))) pss_nil))) (pss_one (ps_ret (pv 3)))))), ?_⟩
  walk_at "rd"
  refine ⟨sz1, fun b0 hb0 => ?_⟩
  have g0 : Same H (upd H b0 (.lst [.bl false])) := Same.new hb0
  walk_at "rd"
  refine b_lenL (SqL.of (g0 _ _ hl)) ?_
  refine ⟨b0, _, _, rfl, rfl, upd_same, by omega, by omega, ?_, fun rb hrb => ?_⟩
  · rw [Int.toNat_natCast]
    exact sz (show 1 * xs.length ≤ 100000 by omega)
  rw [Int.toNat_natCast, hlen, rep_false]
  have hrb0 := Same.free g0 hrb
  have g1 : Same H (upd (upd H b0 (.lst [.bl false])) rb (.lst ((List.replicate rs.length false).map V.bl))) := Same.more g0 hrb
  have hrb1 : (upd (upd H b0 (.lst [.bl false])) rb (.lst ((List.replicate rs.length false).map V.bl))) rb = some (.lst ((List.replicate rs.length false).map V.bl)) := upd_same
  generalize upd (upd H b0 (.lst [.bl false])) rb (.lst ((List.replicate rs.length false).map V.bl)) = H1 at g1 hrb1 ⊢
  walk_at "rd"
  refine ⟨sa, _, g1 _ _ hs, trivial, fun od => ?_⟩
  have nrs : rb ≠ sa := fun e => by rw [e, hs] at hrb0; cases hrb0
  walk_at "rd"
  refine ⟨_, rfl, sa, od, kvs, rfl, upd_same, for_it walk_values (fun i σ H2 => H2 sa = some (.frz od (.dK kvs)) ∧ ∃ nm v, σ = [some (.ref la), some (.ref sa), some (.ref ra), some (.ref rb), v] ∧ H2 rb = some (.lst (nm.map V.bl)) ∧ nm.length = rs.length ∧ (∀ i, fl nm i = true → Names rs (stP kvs) i) ∧
    ∀ b o, H1 b = some o → b ≠ sa → b ≠ rb → H2 b = some o) ⟨upd_same, _, _, rfl, by rw [upd_ne nrs]; exact hrb1, List.length_replicate, fun i hi => (by rw [fl_rep] at hi; cases hi), fun b o h1 h2 h3 => by rw [upd_ne h2]; exact h1⟩ (fun i σ H2 _ z => z.1) ?_ ?_⟩
  · rintro i x σ H2 H3 hi ⟨hf, nm, v, rfl, hnm, hnl, hn, hk⟩ ⟨rfl, k, hkv⟩
    obtain ⟨z, p, e, hp⟩ := hen.2.2 _ (List.mem_of_getElem? hkv)
    obtain ⟨rfl, rfl⟩ := Prod.mk.inj e
    have hps : p ∈ stP kvs := List.mem_map.mpr ⟨_, List.mem_of_getElem? hkv, by show ((p : Nat) : Int).toNat = p; omega⟩
    walk_at "rd"
    refine b_set hnm (by rw [List.length_map, hnl]; exact hp) ?_
    rw [map_setT]
    refine ⟨by rw [upd_ne nrs.symm]; exact hf, nm.set p true, _, rfl, upd_same, by rw [List.length_set]; exact hnl, fun i hi => ?_, fun b o h1 h2 h3 => by rw [upd_ne h3]; exact hk b o h1 h2 h3⟩
    rw [fl_set (by rw [hnl]; exact hp)] at hi
    by_cases c : p = i
    · subst c; exact .inl hps
    · rw [if_neg c] at hi; exact hn i hi
  rintro σ H2 ⟨hf, nm, v, rfl, hnm, hnl, hn, hk⟩
  refine ⟨hf, ?_⟩
  have g3 : Same H (upd H2 sa (.dK kvs)) := fun b o hb => by
    by_cases c : b = sa
    · subst c
      rw [upd_same]; rw [hs] at hb; exact hb
    · rw [upd_ne c]
      exact hk b o (g1 _ _ hb) c (ne_of_none hb hrb0)
  have hnm3 : (upd H2 sa (.dK kvs)) rb = some (.lst (nm.map V.bl)) := by rw [upd_ne nrs]; exact hnm
  generalize upd H2 sa (.dK kvs) = H3 at g3 hnm3 ⊢
  walk_at "rd"
  refine ⟨_, rfl, _, _, rfl, .inl (SqL.of (g3 _ _ hl)), _, rfl, by omega, by omega, ?_⟩
  rw [Int.toNat_natCast, hlen]
  refine for_range (lo := 0) (n := rs.length) (fun i σ H4 => Same H H4 ∧ ∃ nm v, σ = [some (.ref la), some (.ref sa), some (.ref ra), some (.ref rb), v] ∧ H4 rb = some (.lst (nm.map V.bl)) ∧ nm.length = rs.length ∧ (∀ i, fl nm i = true → Names rs (stP kvs) i)) ⟨g3, nm, _, rfl, hnm3, hnl, hn⟩ ?_ ?_
  · rintro i σ H4 hi ⟨g4, nm, v, rfl, hnm, hnl, hn⟩
    have hc : ((0 : Int) + (i : Nat)) = ((i : Nat) : Int) := by omega
    rw [hc]
    obtain ⟨r, hr3, hrm, hw, ht⟩ := wA_of hi
    obtain ⟨a, hxa, hsa⟩ := hr2.at hr3
    walk_at "rd"
    refine a_ixL (SqL.of (g4 _ _ hra)) (bat (fl_at (by rw [hbl]; exact hi))) ?_
    walk_at "rd"
    refine a_iteB (fun e1 => ?_) (fun e1 => ?_)
    · walk_at "rd"
      refine a_ixL (SqL.of (g4 _ _ hl)) (atI_nat hxa) ?_
      walk_at "rd"
      refine a_ixT (Same.seqT g4 hsa) atI0 ?_
      walk_at "rd"
      cases hp1 : plB r.w with
      | true =>
        refine b_inT (M.tp_PLACED_shortening _) rfl (by decide +kernel) (b := true) hp1 ?_
        obtain ⟨hx, hlt⟩ := pl_x hv hrm hp1
        walk_at "rd"
        refine a_ixL (SqL.of (g4 _ _ hl)) (atI_nat hxa) ?_
        walk_at "rd"
        refine a_ixT (Same.seqT g4 hsa) (atI1 hx) ?_
        refine b_set hnm (by rw [List.length_map, hnl]; exact hlt) ?_
        rw [map_setT]
        refine ⟨Same.mut g4 hrb0, _, _, rfl, upd_same, by rw [List.length_set]; exact hnl, fun j hj => ?_⟩
        rw [fl_set (by rw [hnl]; exact hlt)] at hj
        by_cases c : tgt r = j
        · exact .inr ⟨i, hi, by rw [hw]; exact hp1, by rw [ht]; exact c⟩
        · rw [if_neg c] at hj; exact hn j hj
      | false =>
        refine b_inT (M.tp_PLACED_shortening _) rfl (by decide +kernel) (b := false) hp1 ?_
        walk_at "rd"
        exact ⟨g4, nm, _, rfl, hnm, hnl, hn⟩
    · walk_at "rd"
      exact ⟨g4, nm, _, rfl, hnm, hnl, hn⟩
  rintro σ H4 ⟨g4, nm, v, rfl, hnm, hnl, hn⟩
  walk_at "rd"
  exact q _ _ _ g4 hrb0 hnm hnl hn
abbrev N_is_quiet : List Str := ["line", "surely"]
abbrev S_is_quiet : Scope := defScope (top 56)
theorem sc_is_quiet : FnScope N_is_quiet ["line", "surely"] (defScope (top 56)) := ⟨rfl, rfl, rfl, by decide +kernel, rfl, by decide +kernel, by decide +kernel⟩
theorem quiet_w {w : Str} (h : inV (.str w) tv_QUIET = true) : endB w = false ∧ ¬ w = "shut" :=
  (show ∀ y ∈ (["worth", "name", "give", "drop", "list", "counter", "mark"] : List Str), endB y = false ∧ ¬ y = "shut" by decide +kernel) w (in_strs h)
def f_quiet (K : PySem.W.Frag) (l s : V) (H : Hp) (Q : VK) : Prop := ∃ r a n b, l = .ref a ∧ SqT K H a (insV r) ∧ okIns n r = true ∧ s = .bl b ∧ ∀ c : Bool, (c = true → endB r.w = false ∧ ¬ r.w = "shut") → Q (.bl c) H
theorem deed_x {n : Int} {r : Ins} (h : okIns n r = true) (e : r.w = "deed") : ∃ z, r.x = some (.str z) := by
  obtain ⟨w, x⟩ := r
  have e' : w = "deed" := e
  subst e'
  cases x with
  | none => exact absurd (show inV (.str "deed") tv_ALONE = true from h) (by decide +kernel)
  | some v =>
    have h' : argOk "deed" v n = true := h
    unfold argOk at h'
    rw [if_neg (by decide +kernel), if_neg (by decide +kernel), if_neg (by decide +kernel), if_pos rfl] at h'
    cases v with
    | str z => exact ⟨z, rfl⟩
    | _ => cases h'
theorem ok_quiet (M : Md w K mg) : Cal P w K mg base 1 "is_quiet" ["line", "surely"] (s2 (f_quiet K)) := by
  obtain ⟨fd, F⟩ := M.fd_is_quiet
  refine ⟨⟨_, fd, fn_of_d F sc_is_quiet s2_len (fun cdv A outer s H vs Q E hr h => ?_), M.gl_is_quiet, F.kp, F.bindsN fun _ _ _ _ _ _ us hl => match us, hl with | [_, _], _ => rfl⟩⟩
  have hu := hu_of hr
  have nd := sc_is_quiet.nd
  obtain ⟨_, _, rfl, r, a, n, b, rfl, hsa, hok, rfl, q⟩ := h
  refine ⟨_, (pss_cons (ps_if (pt_cmpR op_ne (pe_ix (ix_tupK (K := K) rfl) (pv 0) pe_int (fun _ _ => rfl)) pe_str (nomark _)) (pss_one (ps_ret (pe_cmpR (op_inK (K := K) rfl) (pe_ix (ix_tupK (K := K) rfl) (pv 0) pe_int (fun _ _ => rfl)) (pe_globR rfl M.gl_QUIET) (by first | rfl | exact nomark _)))) pss_nil) (pss_cons (ps_if (pt_val (pv 1)) (pss_one (ps_ret (pe_cmpR (op_inK (K := K) rfl) (pe_ix (ix_tupK (K := K) rfl) (pv 0) pe_int (fun _ _ => rfl)) (pe_globR rfl M.gl_SURE_DEEDS) (by first | rfl | exact nomark _)))) pss_nil) (pss_one (ps_ret (pe_cmpR (op_notInK (K := K) rfl) (pe_ix (ix_tupK (K := K) rfl) (pv 0) pe_int (fun _ _ => rfl)) (pe_globR rfl M.gl_LOOK_DEEDS) (by first | rfl | exact nomark _)))))), ?_⟩
  walk_at "rd"
  refine a_ixT hsa atI0 ?_
  walk_at "rd"
  refine a_iteN (fun e1 => ?_) (fun e1 => ?_)
  · walk_at "rd"
    refine a_ixT hsa atI0 ?_
    walk_at "rd"
    exact b_inT (M.tp_QUIET _) rfl (by decide +kernel) rfl (q _ fun c => quiet_w c)
  · obtain ⟨z, hx⟩ := deed_x hok e1
    have hd : endB r.w = false ∧ ¬ r.w = "shut" := by rw [e1]; decide +kernel
    walk_at "rd"
    refine a_iteB (fun e2 => ?_) (fun e2 => ?_)
    · walk_at "rd"
      refine a_ixT hsa (atI1 hx) ?_
      walk_at "rd"
      exact b_inT (M.tp_SURE_DEEDS _) rfl (by decide +kernel) rfl (q _ fun _ => hd)
    · walk_at "rd"
      refine a_ixT hsa (atI1 hx) ?_
      walk_at "rd"
      exact b_niT (M.tp_LOOK_DEEDS _) rfl (by decide +kernel) rfl (q _ fun _ => hd)
end

end T51

set_option Elab.async false
set_option linter.all false
set_option maxRecDepth 100000
set_option maxHeartbeats 4000000
namespace T51
open PySem PySem.Spec PyProof.Rows L2
local macro_rules | `(tactic| walk_at "rd1") => `(tactic| with_reducible first
  | refine a_seq ?_ | refine a_var rfl ?_ | refine a_c ?_ | refine a_op ?_ | refine a_cons ?_ | refine a_nil ?_ | refine a_cb ?_ | refine a_asg ?_ | refine a_gname ?_ | refine a_ret ?_
  | refine a_if ?_ | refine a_test ?_ | refine a_tB ?_ | refine a_blP ?_ | refine a_and ?_ | refine a_or ?_ | refine a_not ?_ | refine a_andV ?_ | refine a_orV ?_ | refine a_notV ?_ | refine a_ifE ?_
  | refine a_rI0 ?_ | refine a_eqS ?_ | refine a_eqI ?_ | refine a_neS ?_ | refine a_neI ?_ | refine a_call ?_ | refine a_tup ?_ | refine a_lst ?_ | refine a_chain ?_ | refine a_iteT ?_ | refine a_iteF ?_ | refine a_iteNT ?_ | refine a_iteNF ?_
  | refine a_drop ?_ | refine a_next ?_ | refine a_cont ?_ | refine a_break ?_ | refine a_retN ?_ | refine a_ipI ?_ | refine a_aug rfl ?_ | refine a_bm ?_ | refine a_bm0 ?_ | refine b_ord ?_ | refine b_int ?_ | refine b_isN ?_ | refine b_notN ?_ | refine a_un ?_ | refine b_rU ?_ | refine a_fld ?_ | refine a_sfld ?_ | refine a_meth ?_ | refine a_make ?_
  | refine a_dget ?_ | refine a_din ?_ | refine a_dnin ?_ | refine a_dput ?_ | refine a_yes ?_ | refine a_gsub ?_)
local macro_rules | `(tactic| walk_at "is") => `(tactic| with_reducible first
  | refine a_isi_int_int ?_ | refine a_isi_int_bool ?_ | refine a_isi_int_str ?_ | refine a_isi_int_list ?_ | refine a_isi_int_tuple ?_ | refine a_isi_int_dict ?_
  | refine a_isi_bl_int ?_ | refine a_isi_bl_bool ?_ | refine a_isi_bl_str ?_ | refine a_isi_bl_list ?_ | refine a_isi_bl_tuple ?_ | refine a_isi_bl_dict ?_
  | refine a_isi_str_int ?_ | refine a_isi_str_bool ?_ | refine a_isi_str_str ?_ | refine a_isi_str_list ?_ | refine a_isi_str_tuple ?_ | refine a_isi_str_dict ?_
  | refine a_isi_non_int ?_ | refine a_isi_non_bool ?_ | refine a_isi_non_str ?_ | refine a_isi_non_list ?_ | refine a_isi_non_tuple ?_ | refine a_isi_non_dict ?_)
local macro_rules | `(tactic| walk_at "rd") => `(tactic| repeat (walk_at "rd1"))
local macro_rules | `(tactic| walk_at "hp") => `(tactic| first
  | with_reducible assumption
  | with_reducible exact upd_same
  | (with_reducible refine SqL.of ?_; walk_at "hp")
  | (with_reducible refine SqT.of ?_; walk_at "hp")
  | (with_reducible refine Eq.trans (upd_ne ?_) ?_; rotate_left; focus (walk_at "hp"); walk_at "ne")
  | (with_reducible refine (by with_reducible assumption : Same _ _) _ _ ?_; walk_at "hp"))
local macro_rules | `(tactic| walk_at "ne") => `(tactic| first
  | with_reducible assumption
  | with_reducible exact Ne.symm (by with_reducible assumption)
  | (with_reducible refine ne_of_none ?_ (by with_reducible assumption); walk_at "hp")
  | (with_reducible refine Ne.symm (ne_of_none ?_ (by with_reducible assumption)); walk_at "hp"))
local macro_rules | `(tactic| walk_at "rc") => `(tactic| with_reducible first
  | refine a_s1 ?_ | refine a_s2 ?_ | refine a_s3 ?_ | refine a_s4 ?_ | refine a_s0 ?_ | refine a_m1 ?_ | refine a_m2 ?_ | refine a_m3 ?_ | refine a_m4 ?_)
local macro_rules | `(tactic| walk_at "rx1") => `(tactic| with_reducible first
  | refine a_var rfl ?_ | refine a_c ?_ | refine a_op ?_ | refine a_cons ?_ | refine a_nil ?_ | refine a_cb ?_ | refine a_asg ?_ | refine a_gname ?_ | refine a_ret ?_
  | refine a_if ?_ | refine a_test ?_ | refine a_tB ?_ | refine a_blP ?_ | refine a_and ?_ | refine a_or ?_ | refine a_not ?_ | refine a_andV ?_ | refine a_orV ?_ | refine a_notV ?_ | refine a_ifE ?_
  | refine a_rI0 ?_ | refine a_eqS ?_ | refine a_eqI ?_ | refine a_neS ?_ | refine a_neI ?_ | refine a_call ?_ | refine a_tup ?_ | refine a_lst ?_ | refine a_chain ?_ | refine a_iteT ?_ | refine a_iteF ?_ | refine a_iteNT ?_ | refine a_iteNF ?_
  | refine a_drop ?_ | refine a_next ?_ | refine a_cont ?_ | refine a_break ?_ | refine a_retN ?_ | refine a_ipI ?_ | refine a_aug rfl ?_ | refine a_bm ?_ | refine a_bm0 ?_ | refine b_ord ?_ | refine b_int ?_ | refine b_isN ?_ | refine b_notN ?_ | refine a_un ?_ | refine b_rU ?_ | refine a_fld ?_ | refine a_sfld ?_ | refine a_meth ?_ | refine a_make ?_
  | refine a_dget ?_ | refine a_din ?_ | refine a_dnin ?_ | refine a_dput ?_ | refine a_yes ?_ | refine a_gsub ?_)
local macro_rules | `(tactic| walk_at "rx") => `(tactic| repeat (walk_at "rx1"))
section
variable {P : Program} {w : World} {K : PySem.W.Frag} {mg : Str → Option Value} {base : Heap}
/-! ### what is idle -/
def Pass (rs : List Ins) (p : Nat) : Prop := p + 1 < rs.length ∧ (endB (wA rs p) = false ∨ (wA rs p = "jump" ∧ tA rs p = p + 1))
def Safe (rs : List Ins) (k : Nat) (pl : List Nat) : Prop := pl.length ≤ 3 ∧ ∀ p ∈ pl, k ≤ p ∧ ∀ q, k ≤ q → q ≤ p → Pass rs q
theorem Safe.nil {rs : List Ins} {k : Nat} : Safe rs k [] := ⟨by simp, fun p hp => by simp at hp⟩
abbrev N_is_free : List Str := ["named", "at", "many", "place"]
abbrev S_is_free : Scope := defScope (top 58)
theorem sc_is_free : FnScope N_is_free ["named", "at", "many"] (defScope (top 58)) := ⟨rfl, rfl, rfl, by decide +kernel, rfl, by decide +kernel, by decide +kernel⟩
def f_free (n a m : V) (H : Hp) (Q : VK) : Prop := ∃ na k j, ∃ nm : List Bool, n = .ref na ∧ H na = some (.lst (nm.map V.bl)) ∧ a = .int (k : Nat) ∧ m = .int (j : Nat) ∧ j ≤ 2 ∧ nm.length ≤ 9000 ∧ ∀ c : Bool, (c = true → k + j + 1 < nm.length) → Q (.bl c) H
theorem ok_free (M : Md w K mg) : Cal P w K mg base 1 "is_free" ["named", "at", "many"] (s3 f_free) := by
  obtain ⟨fd, F⟩ := M.fd_is_free
  refine ⟨⟨_, fd, fn_of_d F sc_is_free s3_len (fun cdv A outer s H vs Q E hr h => ?_), M.gl_is_free, F.kp, F.bindsN fun _ _ _ _ _ _ us hl => match us, hl with | [_, _, _], _ => rfl⟩⟩
  have hu := hu_of hr
  have nd := sc_is_free.nd
  obtain ⟨_, _, _, rfl, na, k, j, nm, rfl, hn, rfl, rfl, hj, h9, q⟩ := h
  have hnl : (nm.map V.bl).length = nm.length := List.length_map _
  refine ⟨_, (pss_cons (ps_if (pt_cmpR op_ge (pe_op op_add (pe_op op_add (pv 1) (pv 2)) pe_int) (pe_callB (call_lenK (K := K) rfl) rfl M.fr_len PySem.boot_len (pa_cons (pv 0) pa_nil)) (nomark _)) (pss_one (ps_ret pe_bl)) pss_nil) (pss_cons (ps_for PassesOwn.never rfl (pi_range2 rfl M.fr_range (pa_cons (pe_op op_add (pv 1) pe_int) (pa_cons (pe_op op_add (pe_op op_add (pv 1) (pv 2)) pe_int) pa_nil))) (pg_name (i := 3) nd rfl (Or.inl rfl)) (pss_one (ps_if (pt_val (pe_ix (ix_listK (K := K) rfl) (pv 0) (pv 3) (fun _ _ => rfl))) (pss_one (ps_ret pe_bl)) pss_nil))) (pss_one (ps_ret pe_bl)))), ?_⟩
  walk_at "rd"
  refine b_lenL (SqL.of hn) ?_
  walk_at "rd"
  refine a_ite (fun e1 => ?_) (fun e1 => ?_)
  · walk_at "rd"
    exact q _ fun z => by cases z
  · have hlt : k + j + 1 < nm.length := by rw [hnl] at e1; omega
    walk_at "rd"
    refine a_rng2 ?_
    walk_at "rd"
    refine ⟨_, _, rfl, by omega, ?_⟩
    rw [show (((k : Int) + (j : Nat) + 1) - ((k : Int) + 1)).toNat = j by omega]
    refine for_range (lo := (k : Int) + 1) (n := j) (fun i σ H2 => H2 = H ∧ ∃ v, σ = [some (.ref na), some (.int k), some (.int j), v]) ⟨rfl, _, rfl⟩ ?_ ?_
    · rintro i σ H2 hi ⟨rfl, v, rfl⟩
      have hc : ((k : Int) + 1 + (i : Nat)) = ((k + 1 + i : Nat) : Int) := by omega
      rw [hc]
      walk_at "rd"
      refine a_ixL (SqL.of hn) (bat (fl_at (by omega))) ?_
      walk_at "rd"
      refine a_iteB (fun e2 => ?_) (fun e2 => ?_)
      · walk_at "rd"
        exact q _ fun z => by cases z
      · walk_at "rd"
        exact ⟨rfl, _, rfl⟩
    · rintro σ H2 ⟨rfl, v, rfl⟩
      walk_at "rd"
      exact q _ fun _ => hlt
abbrev N_fence_places : List Str := ["lines", "named", "at", "places", "next_place", "surely"]
abbrev S_fence_places : Scope := defScope (top 57)
theorem sc_fence_places : FnScope N_fence_places ["lines", "named", "at"] (defScope (top 57)) := ⟨rfl, rfl, rfl, by decide +kernel, rfl, by decide +kernel, by decide +kernel⟩
def f_fence (K : PySem.W.Frag) (l n a : V) (H : Hp) (Q : VK) : Prop := ∃ rs na k, ∃ nm : List Bool, LnAt K H l rs ∧ Valid rs ∧ n = .ref na ∧ H na = some (.lst (nm.map V.bl)) ∧ nm.length = rs.length ∧ a = .int (k : Nat) ∧ k < rs.length ∧ wA rs k = "open" ∧
  ∀ v (pl : List Nat) H', Same H H' → H v = none → H' v = some (.lst (nV pl)) → Safe rs k pl → (pl = [] → ¬ (k + 2 < rs.length ∧ wA rs (k + 1) = "shut" ∧ fl nm (k + 1) = false)) → Q (.ref v) H'
theorem ok_fence (M : Md w K mg) (C_is_quiet : Cal P w K mg base 1 "is_quiet" ["line", "surely"] (s2 (f_quiet K))) : Cal P w K mg base 2 "fence_places" ["lines", "named", "at"] (s3 (f_fence K)) := by
  obtain ⟨fd, F⟩ := M.fd_fence_places
  refine ⟨⟨_, fd, fn_of_d F sc_fence_places s3_len (fun cdv A outer s H vs Q E hr h => ?_), M.gl_fence_places, F.kp, F.bindsN fun _ _ _ _ _ _ us hl => match us, hl with | [_, _, _], _ => rfl⟩⟩
  have hu := hu_of hr
  have nd := sc_fence_places.nd
  obtain ⟨_, _, _, rfl, rs, na, k, nm, ⟨la, xs, rfl, hl, hr2⟩, hv, rfl, hn, hnl, rfl, hk, hop, q⟩ := h
  have hlen := hr2.len
  have hn9 := hv.2.1
  refine ⟨_, (pss_cons (ps_set (i := 3) nd rfl (Or.inl rfl) (pe_lst (pa_cons (pv 2) pa_nil))) (pss_cons (ps_set (i := 4) nd rfl (Or.inl rfl) (pe_op op_add (pv 2) pe_int)) (pss_cons (ps_set (i := 5) nd rfl (Or.inl rfl) (pe_and (pe_cmpR op_lt (pv 4) (pe_callB (call_lenK (K := K) rfl) rfl M.fr_len PySem.boot_len (pa_cons (pv 0) pa_nil)) (nomark _)) (pe_and (pe_cmpR op_eq (pe_ix (ix_tupK (K := K) rfl) (pe_ix (ix_listK (K := K) rfl) (pv 0) (pv 4) (fun _ _ => rfl)) pe_int (fun _ _ => rfl)) pe_str (nomark _)) (pe_one (pe_not (pe_ix (ix_listK (K := K) rfl) (pv 1) (pv 4) (fun _ _ => rfl))))))) (pss_cons (ps_if (pt_val (pv 5)) (pss_cons (ps_expr (pe_bm PySem.F.plainAttrs_list PySem.F.slot_list_append PySem.F.type_list_append mt_append (pv 3) (pa_cons (pv 4) pa_nil))) (pss_one (ps_aug (i := 4) nd rfl (Or.inl rfl) pe_int ip_add))) pss_nil) (pss_cons (ps_while PassesOwn.never (PW.pt (pw_and (pt_cmpR op_lt (pv 4) (pe_callB (call_lenK (K := K) rfl) rfl M.fr_len PySem.boot_len (pa_cons (pv 0) pa_nil)) (nomark _)) (pw_and (pt_not (pt_val (pe_ix (ix_listK (K := K) rfl) (pv 1) (pv 4) (fun _ _ => rfl)))) (pw_and1 (pt_val (pe_cl C_is_quiet (hr.mono (by first | decide | omega)) rfl (pa_cons (pe_ix (ix_listK (K := K) rfl) (pv 0) (pv 4) (fun _ _ => rfl)) (pa_cons (pv 5) pa_nil)))))))) (pss_one (ps_aug (i := 4) nd rfl (Or.inl rfl) pe_int ip_add))) (pss_cons (ps_if (PW.pt (pw_and (pt_cmpR op_lt (pe_op op_add (pv 4) pe_int) (pe_callB (call_lenK (K := K) rfl) rfl M.fr_len PySem.boot_len (pa_cons (pv 0) pa_nil)) (nomark _)) (pw_and (pt_not (pt_val (pe_ix (ix_listK (K := K) rfl) (pv 1) (pv 4) (fun _ _ => rfl)))) (pw_and1 (pt_cmpR op_eq (pe_ix (ix_tupK (K := K) rfl) (pe_ix (ix_listK (K := K) rfl) (pv 0) (pv 4) (fun _ _ => rfl)) pe_int (fun _ _ => rfl)) pe_str (nomark _)))))) (pss_one (ps_ret (pe_op op_cat (pv 3) (pe_lst (pa_cons (pv 4) pa_nil))))) pss_nil) (pss_one (ps_ret (pe_lst pa_nil))))))))), ?_⟩
  walk_at "rd"
  refine ⟨sz1, fun pa hpa => ?_⟩
  have g1 : Same H (upd H pa (.lst [.int (k : Nat)])) := Same.new hpa
  have hp1 : (upd H pa (.lst [.int (k : Nat)])) pa = some (.lst (nV [k])) := upd_same
  generalize upd H pa (.lst [.int (k : Nat)]) = H1 at g1 hp1 ⊢
  have hc1 : ((k : Int) + 1) = ((k + 1 : Nat) : Int) := by omega
  walk_at "rx"
  walk_at "rd1"
  walk_at "rx"
  rw [hc1]
  with_reducible refine s_cut (fun σ' H' => H' = H1 ∧ ∃ c : Bool, σ' = [some (.ref la), some (.ref na), some (.int k), some (.ref pa), some (.int (k + 1 : Nat)), some (.bl c)] ∧ (c = true → k + 1 < rs.length ∧ wA rs (k + 1) = "retry")) ?_ ?_
  · intro nx' hnx
    walk_at "rx"
    refine b_lenL (SqL.of (g1 _ _ hl)) ?_
    walk_at "rx"
    refine a_ite (fun e1 => ?_) (fun e1 => ?_)
    · have hlt : k + 1 < rs.length := by omega
      obtain ⟨r, hr3, hrm, hw, _⟩ := wA_of hlt
      obtain ⟨a, hxa, hsa⟩ := hr2.at hr3
      walk_at "rx"
      refine a_ixL (SqL.of (g1 _ _ hl)) (atI_nat hxa) ?_
      walk_at "rx"
      refine a_ixT (Same.seqT g1 hsa) atI0 ?_
      walk_at "rx"
      refine a_ite (fun e2 => ?_) (fun e2 => ?_)
      · walk_at "rx"
        refine a_ixL (SqL.of (g1 _ _ hn)) (bat (fl_at (by rw [hnl]; exact hlt))) ?_
        walk_at "rx"
        exact hnx _ _ ⟨rfl, _, rfl, fun _ => ⟨hlt, hw.trans e2⟩⟩
      · walk_at "rx"
        exact hnx _ _ ⟨rfl, false, rfl, fun z => by cases z⟩
    · walk_at "rx"
      exact hnx _ _ ⟨rfl, false, rfl, fun z => by cases z⟩
  rintro σ2 H2 ⟨rfl, c, rfl, hc⟩
  let Inv : Nat → L2.St → Hp → Prop := fun d σ' H' => ∃ x, ∃ pl : List Nat, d = rs.length - x ∧ σ' = [some (.ref la), some (.ref na), some (.int k), some (.ref pa), some (.int (x : Nat)), some (.bl c)] ∧ Same H H' ∧ H' pa = some (.lst (nV pl)) ∧ pl.length ≤ 2 ∧ k < x ∧ x ≤ rs.length ∧
    (∀ p ∈ pl, k ≤ p ∧ p < x) ∧ (∀ q, k ≤ q → q < x → endB (wA rs q) = false) ∧ (wA rs (k + 1) = "shut" → x = k + 1)
  have hopen : ∀ q, k ≤ q → q < k + 1 → endB (wA rs q) = false := fun q h1 h2 => by
    rw [show q = k by omega, hop]; decide +kernel
  with_reducible refine s_cut (fun σ' H' => ∃ d, Inv d σ' H') ?_ ?_
  · intro nx' hnx
    walk_at "rx"
    refine a_iteB (fun e1 => ?_) (fun e1 => ?_)
    · obtain ⟨hlt, hret⟩ := hc e1
      walk_at "rd"
      refine b_appendE hp1 ?_
      walk_at "rd"
      refine b_app hp1 (by simp) ?_
      walk_at "rd"
      have hc2 : (((k + 1 : Nat) : Int) + 1) = ((k + 2 : Nat) : Int) := by omega
      rw [hc2]
      refine hnx _ _ ⟨_, k + 2, [k, k + 1], rfl, rfl, Same.mut g1 hpa, upd_same, by simp, by omega, by omega, fun p hp => ?_, fun q h1 h2 => ?_, fun z => ?_⟩
      · simp at hp
        omega
      · by_cases c2 : q < k + 1
        · exact hopen q h1 c2
        · rw [show q = k + 1 by omega, hret]; decide +kernel
      · rw [hret] at z; exact absurd z (by decide +kernel)
    · walk_at "rd"
      exact hnx _ _ ⟨_, k + 1, [k], rfl, rfl, g1, hp1, by simp, by omega, by omega, fun p hp => by simp at hp; omega, hopen, fun _ => rfl⟩
  rintro σ3 H3 ⟨d3, hi3⟩
  with_reducible refine s_cut (fun σ' H' => ∃ d, Inv d σ' H') ?_ ?_
  · intro nx' hnx
    refine ⟨Inv, ⟨_, hi3⟩, ?_⟩
    rintro d σ4 H4 ⟨x, pl, rfl, rfl, g4, hpl, h2, hkx, hxn, hps, hq, hs⟩
    have out : nx' [some (.ref la), some (.ref na), some (.int k), some (.ref pa), some (.int (x : Nat)), some (.bl c)] H4 := hnx _ _ ⟨_, x, pl, rfl, rfl, g4, hpl, h2, hkx, hxn, hps, hq, hs⟩
    walk_at "rd"
    refine b_lenL (SqL.of (g4 _ _ hl)) ?_
    walk_at "rd"
    refine a_ite (fun e1 => ?_) (fun e1 => ?_)
    · have hlt : x < rs.length := by omega
      obtain ⟨r, hr3, hrm, hw, _⟩ := wA_of hlt
      obtain ⟨a, hxa, hsa⟩ := hr2.at hr3
      walk_at "rd"
      refine a_ixL (SqL.of (g4 _ _ hn)) (bat (fl_at (by rw [hnl]; exact hlt))) ?_
      walk_at "rd"
      refine a_iteBN (fun e2 => ?_) (fun e2 => ?_)
      · walk_at "rd"
        refine a_ixL (SqL.of (g4 _ _ hl)) (atI_nat hxa) ?_
        walk_at "rd"; walk_at "rc"
        refine ⟨r, a, _, c, rfl, Same.seqT g4 hsa, hv.2.2 _ hrm, rfl, fun b hb => ?_⟩
        walk_at "rd"
        refine a_iteB (fun e3 => ?_) (fun e3 => ?_)
        · obtain ⟨h5, h6⟩ := hb e3
          refine ⟨fun σ' H' => ∃ d, d < rs.length - x ∧ Inv d σ' H', fun σ' H' ⟨d, h1, h2⟩ => ⟨d, h1, h2⟩, ?_⟩
          walk_at "rd"
          have hc2 : ((x : Int) + 1) = ((x + 1 : Nat) : Int) := by omega
          rw [hc2]
          refine ⟨rs.length - (x + 1), by omega, x + 1, pl, rfl, rfl, g4, hpl, h2, by omega, by omega, fun p hp => ?_, fun q h1 h2 => ?_, fun z => ?_⟩
          · have := hps p hp; omega
          · by_cases c2 : q < x
            · exact hq q h1 c2
            · rw [show q = x by omega, hw]; exact h5
          · have h7 := hs z
            rw [← h7, hw] at z
            exact absurd z h6
        · exact out
      · walk_at "rd"
        exact out
    · walk_at "rd"
      exact out
  rintro σ4 H4 ⟨d4, x, pl, rfl, rfl, g4, hpl, h2, hkx, hxn, hps, hq, hs⟩
  walk_at "rd1"
  with_reducible refine a_if ?_
  with_reducible refine t_cut (fun b H' => H' = H4 ∧ (b = true ↔ x + 1 < rs.length ∧ fl nm x = false ∧ wA rs x = "shut")) ?_ ?_
  · intro R' hR
    walk_at "rd"
    refine b_lenL (SqL.of (g4 _ _ hl)) ?_
    walk_at "rd"
    refine a_ite (fun e1 => ?_) (fun e1 => ?_)
    · have hlt : x < rs.length := by omega
      obtain ⟨r, hr3, hrm, hw, _⟩ := wA_of hlt
      obtain ⟨a, hxa, hsa⟩ := hr2.at hr3
      walk_at "rd"
      refine a_ixL (SqL.of (g4 _ _ hn)) (bat (fl_at (by rw [hnl]; exact hlt))) ?_
      walk_at "rd"
      refine a_iteBN (fun e2 => ?_) (fun e2 => ?_)
      · walk_at "rd"
        refine a_ixL (SqL.of (g4 _ _ hl)) (atI_nat hxa) ?_
        walk_at "rd"
        refine a_ixT (Same.seqT g4 hsa) atI0 ?_
        walk_at "rd"
        refine hR _ _ ⟨rfl, ?_⟩
        rw [decide_eq_true_iff, hw]
        exact ⟨fun z => ⟨by omega, e2, z⟩, fun z => z.2.2⟩
      · walk_at "rd"
        exact hR _ _ ⟨rfl, fun z => (by cases z), fun z => by rw [e2] at z; cases z.2.1⟩
    · walk_at "rd"
      exact hR _ _ ⟨rfl, fun z => (by cases z), fun z => absurd z.1 (by omega)⟩
  rintro b H' ⟨rfl, hb⟩
  refine a_iteB (fun e1 => ?_) (fun e1 => ?_)
  · obtain ⟨h5, h6, h7⟩ := hb.mp e1
    walk_at "rd"
    refine ⟨sz1, fun pb hpb => ?_⟩
    have hpn := ne_of_none hpl hpb
    refine ⟨pa, pb, _, _, rfl, rfl, by rw [upd_ne hpn]; exact hpl, upd_same, ?_, fun p hp => ?_⟩
    · rw [List.length_map]
      exact sz (show pl.length + 1 ≤ 100000 by omega)
    have g5 := Same.more (o := .lst [.int (x : Nat)]) g4 hpb
    refine q _ (pl ++ [x]) _ (Same.more g5 hp) (Same.free g5 hp) ?_ ⟨by rw [List.length_append, List.length_singleton]; omega, fun p hp => ?_⟩ fun z => ?_
    · rw [upd_same]
      unfold nV
      rw [List.map_append]
      rfl
    · have hle : p ≤ x ∧ k ≤ p := by
        rcases List.mem_append.mp hp with hp | hp
        · have := hps p hp; omega
        · rw [List.mem_singleton.mp hp]; omega
      refine ⟨hle.2, fun q' h8 h9 => ⟨by omega, .inl ?_⟩⟩
      by_cases c2 : q' < x
      · exact hq q' h8 c2
      · rw [show q' = x by omega, h7]; decide +kernel
    · simp at z
  · walk_at "rd"
    refine ⟨by decide, fun pb hpb => ?_⟩
    refine q _ [] _ (Same.more g4 hpb) (Same.free g4 hpb) upd_same Safe.nil fun _ z => ?_
    have hx := hs z.2.1
    rw [hx] at hb
    have := hb.mpr ⟨by omega, z.2.2, z.2.1⟩
    rw [this] at e1; cases e1
end

end T51

set_option Elab.async false
set_option linter.all false
set_option maxRecDepth 100000
set_option maxHeartbeats 4000000
namespace T51
open PySem PySem.Spec PyProof.Rows L2
local macro_rules | `(tactic| walk_at "rd1") => `(tactic| with_reducible first
  | refine a_seq ?_ | refine a_var rfl ?_ | refine a_c ?_ | refine a_op ?_ | refine a_cons ?_ | refine a_nil ?_ | refine a_cb ?_ | refine a_asg ?_ | refine a_gname ?_ | refine a_ret ?_
  | refine a_if ?_ | refine a_test ?_ | refine a_tB ?_ | refine a_blP ?_ | refine a_and ?_ | refine a_or ?_ | refine a_not ?_ | refine a_andV ?_ | refine a_orV ?_ | refine a_notV ?_ | refine a_ifE ?_
  | refine a_rI0 ?_ | refine a_eqS ?_ | refine a_eqI ?_ | refine a_neS ?_ | refine a_neI ?_ | refine a_call ?_ | refine a_tup ?_ | refine a_lst ?_ | refine a_chain ?_ | refine a_iteT ?_ | refine a_iteF ?_ | refine a_iteNT ?_ | refine a_iteNF ?_
  | refine a_drop ?_ | refine a_next ?_ | refine a_cont ?_ | refine a_break ?_ | refine a_retN ?_ | refine a_ipI ?_ | refine a_aug rfl ?_ | refine a_bm ?_ | refine a_bm0 ?_ | refine b_ord ?_ | refine b_int ?_ | refine b_isN ?_ | refine b_notN ?_ | refine a_un ?_ | refine b_rU ?_ | refine a_fld ?_ | refine a_sfld ?_ | refine a_meth ?_ | refine a_make ?_
  | refine a_dget ?_ | refine a_din ?_ | refine a_dnin ?_ | refine a_dput ?_ | refine a_yes ?_ | refine a_gsub ?_)
local macro_rules | `(tactic| walk_at "is") => `(tactic| with_reducible first
  | refine a_isi_int_int ?_ | refine a_isi_int_bool ?_ | refine a_isi_int_str ?_ | refine a_isi_int_list ?_ | refine a_isi_int_tuple ?_ | refine a_isi_int_dict ?_
  | refine a_isi_bl_int ?_ | refine a_isi_bl_bool ?_ | refine a_isi_bl_str ?_ | refine a_isi_bl_list ?_ | refine a_isi_bl_tuple ?_ | refine a_isi_bl_dict ?_
  | refine a_isi_str_int ?_ | refine a_isi_str_bool ?_ | refine a_isi_str_str ?_ | refine a_isi_str_list ?_ | refine a_isi_str_tuple ?_ | refine a_isi_str_dict ?_
  | refine a_isi_non_int ?_ | refine a_isi_non_bool ?_ | refine a_isi_non_str ?_ | refine a_isi_non_list ?_ | refine a_isi_non_tuple ?_ | refine a_isi_non_dict ?_)
local macro_rules | `(tactic| walk_at "rd") => `(tactic| repeat (walk_at "rd1"))
local macro_rules | `(tactic| walk_at "hp") => `(tactic| first
  | with_reducible assumption
  | with_reducible exact upd_same
  | (with_reducible refine SqL.of ?_; walk_at "hp")
  | (with_reducible refine SqT.of ?_; walk_at "hp")
  | (with_reducible refine Eq.trans (upd_ne ?_) ?_; rotate_left; focus (walk_at "hp"); walk_at "ne")
  | (with_reducible refine (by with_reducible assumption : Same _ _) _ _ ?_; walk_at "hp"))
local macro_rules | `(tactic| walk_at "ne") => `(tactic| first
  | with_reducible assumption
  | with_reducible exact Ne.symm (by with_reducible assumption)
  | (with_reducible refine ne_of_none ?_ (by with_reducible assumption); walk_at "hp")
  | (with_reducible refine Ne.symm (ne_of_none ?_ (by with_reducible assumption)); walk_at "hp"))
local macro_rules | `(tactic| walk_at "rc") => `(tactic| with_reducible first
  | refine a_s1 ?_ | refine a_s2 ?_ | refine a_s3 ?_ | refine a_s4 ?_ | refine a_s0 ?_ | refine a_m1 ?_ | refine a_m2 ?_ | refine a_m3 ?_ | refine a_m4 ?_)
local macro_rules | `(tactic| walk_at "rx1") => `(tactic| with_reducible first
  | refine a_var rfl ?_ | refine a_c ?_ | refine a_op ?_ | refine a_cons ?_ | refine a_nil ?_ | refine a_cb ?_ | refine a_asg ?_ | refine a_gname ?_ | refine a_ret ?_
  | refine a_if ?_ | refine a_test ?_ | refine a_tB ?_ | refine a_blP ?_ | refine a_and ?_ | refine a_or ?_ | refine a_not ?_ | refine a_andV ?_ | refine a_orV ?_ | refine a_notV ?_ | refine a_ifE ?_
  | refine a_rI0 ?_ | refine a_eqS ?_ | refine a_eqI ?_ | refine a_neS ?_ | refine a_neI ?_ | refine a_call ?_ | refine a_tup ?_ | refine a_lst ?_ | refine a_chain ?_ | refine a_iteT ?_ | refine a_iteF ?_ | refine a_iteNT ?_ | refine a_iteNF ?_
  | refine a_drop ?_ | refine a_next ?_ | refine a_cont ?_ | refine a_break ?_ | refine a_retN ?_ | refine a_ipI ?_ | refine a_aug rfl ?_ | refine a_bm ?_ | refine a_bm0 ?_ | refine b_ord ?_ | refine b_int ?_ | refine b_isN ?_ | refine b_notN ?_ | refine a_un ?_ | refine b_rU ?_ | refine a_fld ?_ | refine a_sfld ?_ | refine a_meth ?_ | refine a_make ?_
  | refine a_dget ?_ | refine a_din ?_ | refine a_dnin ?_ | refine a_dput ?_ | refine a_yes ?_ | refine a_gsub ?_)
local macro_rules | `(tactic| walk_at "rx") => `(tactic| repeat (walk_at "rx1"))
section
variable {P : Program} {w : World} {K : PySem.W.Frag} {mg : Str → Option Value} {base : Heap}
def IdleNo (rs : List Ins) (nm : List Bool) (i : Nat) : Prop := ¬ (wA rs i = "jump" ∧ tA rs i = i + 1) ∧ ¬ (wA rs i = "retry" ∧ i + 1 < rs.length ∧ wA rs (tA rs i) = "fail") ∧ ¬ (wA rs i = "open" ∧ i + 2 < rs.length ∧ wA rs (i + 1) = "shut" ∧ fl nm (i + 1) = false)
/-- a row of the heap against a row written here -/
theorem b_eqRow {K : PySem.W.Frag} {H : Hp} {Q : VK} {a T : Addr} {r s : Ins} (ha : SqT K H a (insV r)) (hT : SqT K H T (insV s)) (hr : goodI r = true) (hs : goodI s = true) (h : Q (.bl (decide (r = s))) H) : rEqD K (.ref a) (.ref T) H Q :=
  ⟨insD r, insD s, Dp_ins hr ha, Dp_ins hs hT, ins_shaped hr, ins_shaped hs, by rw [eqv_ins hr hs]; exact h⟩
theorem good_jump (i : Int) : goodI ⟨"jump", some (.int i)⟩ = true := by
  show (PyData.strOk "jump" && true) = true
  decide +kernel
theorem good_name {v : V} (h : goodV v = true) : goodI ⟨"name", some v⟩ = true := by
  show (PyData.strOk "name" && goodV v) = true
  rw [h]
  decide +kernel
theorem put_w {w : Str} (h : inV (.str w) tv_PUTTING = true) : endB w = false :=
  (show ∀ y ∈ (["worth", "name", "counter"] : List Str), endB y = false by decide +kernel) w (in_strs h)
theorem give_x {n : Int} {r : Ins} (h : okIns n r = true) (e : r.w = "give") : ∃ v, r.x = some v ∧ goodV v = true := by
  obtain ⟨w, x⟩ := r
  have e' : w = "give" := e
  subst e'
  cases x with
  | none => exact absurd (show inV (.str "give") tv_ALONE = true from h) (by decide +kernel)
  | some v => exact ⟨v, rfl, ok_val h rfl⟩
abbrev N_idle_places : List Str := ["lines", "named", "at", "line"]
abbrev S_idle_places : Scope := defScope (top 59)
theorem sc_idle_places : FnScope N_idle_places ["lines", "named", "at"] (defScope (top 59)) := ⟨rfl, rfl, rfl, by decide +kernel, rfl, by decide +kernel, by decide +kernel⟩
def f_idle (K : PySem.W.Frag) (l n a : V) (H : Hp) (Q : VK) : Prop := ∃ rs na k, ∃ nm : List Bool, LnAt K H l rs ∧ Valid rs ∧ n = .ref na ∧ H na = some (.lst (nm.map V.bl)) ∧ nm.length = rs.length ∧ a = .int (k : Nat) ∧ k < rs.length ∧
  ∀ v (pl : List Nat) H', Same H H' → H v = none → H' v = some (.lst (nV pl)) → Safe rs k pl → (pl = [] → IdleNo rs nm k) → Q (.ref v) H'
theorem ok_idle (M : Md w K mg) (C_fence_places : Cal P w K mg base 2 "fence_places" ["lines", "named", "at"] (s3 (f_fence K))) (C_is_free : Cal P w K mg base 1 "is_free" ["named", "at", "many"] (s3 f_free)) : Cal P w K mg base 3 "idle_places" ["lines", "named", "at"] (s3 (f_idle K)) := by
  obtain ⟨fd, F⟩ := M.fd_idle_places
  refine ⟨⟨_, fd, fn_of_d F sc_idle_places s3_len (fun cdv A outer s H vs Q E hr h => ?_), M.gl_idle_places, F.kp, F.bindsN fun _ _ _ _ _ _ us hl => match us, hl with | [_, _, _], _ => rfl⟩⟩
  have hu := hu_of hr
  have nd := sc_idle_places.nd
  obtain ⟨_, _, _, rfl, rs, na, k, nm, ⟨la, xs, rfl, hl, hr2⟩, hv, rfl, hn, hnl, rfl, hk, q⟩ := h
  have hlen := hr2.len
  have hn9 := hv.2.1
  obtain ⟨r, hr3, hrm, hw, ht⟩ := wA_of hk
  obtain ⟨a, hxa, hsa⟩ := hr2.at hr3
  have hok := hv.2.2 _ hrm
  have hgd := hv.good _ hrm
  have hc1 : ((k : Int) + 1) = ((k + 1 : Nat) : Int) := by omega
  have one : ∀ H1 p, Same H H1 → H1 p = none → Pass rs k → Q (.ref p) (upd H1 p (.lst [.int (k : Nat)])) := fun H1 p g hp hs =>
    q p [k] _ (Same.more g hp) (Same.free g hp) upd_same ⟨by simp, fun p hp => by
      rw [List.mem_singleton.mp hp]
      exact ⟨Nat.le_refl _, fun q h1 h2 => by rw [show q = k by omega]; exact hs⟩⟩ fun z => by cases z
  refine ⟨_, (pss_cons (ps_set (i := 3) nd rfl (Or.inl rfl) (pe_ix (ix_listK (K := K) rfl) (pv 0) (pv 2) (fun _ _ => rfl))) (pss_cons (ps_if (pt_cmpR (op_eqDK (K := K) rfl hr.units) (pv 3) (pe_tup (pa_cons pe_str (pa_cons (pe_op op_add (pv 2) pe_int) pa_nil))) (nomark _)) (pss_one (ps_ret (pe_lst (pa_cons (pv 2) pa_nil)))) pss_nil) (pss_cons (ps_if (PW.pt (pw_and (pt_cmpR op_eq (pe_ix (ix_tupK (K := K) rfl) (pv 3) pe_int (fun _ _ => rfl)) pe_str (nomark _)) (pw_and (pt_cmpR op_eq (pe_ix (ix_tupK (K := K) rfl) (pe_ix (ix_listK (K := K) rfl) (pv 0) (pe_ix (ix_tupK (K := K) rfl) (pv 3) pe_int (fun _ _ => rfl)) (fun _ _ => rfl)) pe_int (fun _ _ => rfl)) pe_str (nomark _)) (pw_and1 (pt_cmpR op_lt (pe_op op_add (pv 2) pe_int) (pe_callB (call_lenK (K := K) rfl) rfl M.fr_len PySem.boot_len (pa_cons (pv 0) pa_nil)) (nomark _)))))) (pss_one (ps_ret (pe_lst (pa_cons (pv 2) pa_nil)))) pss_nil) (pss_cons (ps_if (pt_cmpR op_eq (pe_ix (ix_tupK (K := K) rfl) (pv 3) pe_int (fun _ _ => rfl)) pe_str (nomark _)) (pss_one (ps_ret (pe_cl C_fence_places (hr.mono (by first | decide | omega)) rfl (pa_cons (pv 0) (pa_cons (pv 1) (pa_cons (pv 2) pa_nil)))))) pss_nil) (pss_cons (ps_if (PW.pt (pw_or (pt_cmpR (op_inK (K := K) rfl) (pe_ix (ix_tupK (K := K) rfl) (pv 3) pe_int (fun _ _ => rfl)) (pe_globR rfl M.gl_PUTTING) (by first | rfl | exact nomark _)) (pw_or1 (pt_cmpR (op_eqDK (K := K) rfl hr.units) (pv 3) (pe_tup (pa_cons pe_str (pa_cons pe_str pa_nil))) (nomark _))))) (pss_one (ps_if (PW.pt (pw_and (pt_val (pe_cl C_is_free (hr.mono (by first | decide | omega)) rfl (pa_cons (pv 1) (pa_cons (pv 2) (pa_cons pe_int pa_nil))))) (pw_and1 (pt_cmpR op_eq (pe_ix (ix_tupK (K := K) rfl) (pe_ix (ix_listK (K := K) rfl) (pv 0) (pe_op op_add (pv 2) pe_int) (fun _ _ => rfl)) pe_int (fun _ _ => rfl)) pe_str (nomark _))))) (pss_one (ps_ret (pe_lst (pa_cons (pv 2) (pa_cons (pe_op op_add (pv 2) pe_int) pa_nil))))) pss_nil)) pss_nil) (pss_cons (ps_if (PW.pt (pw_and (pt_cmpR op_eq (pe_ix (ix_tupK (K := K) rfl) (pv 3) pe_int (fun _ _ => rfl)) pe_str (nomark _)) (pw_and1 (pt_val (pe_cl C_is_free (hr.mono (by first | decide | omega)) rfl (pa_cons (pv 1) (pa_cons (pv 2) (pa_cons pe_int pa_nil)))))))) (pss_one (ps_if (PW.pt (pw_and (pt_cmpR op_eq (pe_ix (ix_tupK (K := K) rfl) (pe_ix (ix_listK (K := K) rfl) (pv 0) (pe_op op_add (pv 2) pe_int) (fun _ _ => rfl)) pe_int (fun _ _ => rfl)) pe_str (nomark _)) (pw_and1 (pt_cmpR (op_eqDK (K := K) rfl hr.units) (pe_ix (ix_listK (K := K) rfl) (pv 0) (pe_op op_add (pv 2) pe_int) (fun _ _ => rfl)) (pe_tup (pa_cons pe_str (pa_cons (pe_ix (ix_tupK (K := K) rfl) (pv 3) pe_int (fun _ _ => rfl)) pa_nil))) (nomark _))))) (pss_one (ps_ret (pe_lst (pa_cons (pe_op op_add (pv 2) pe_int) (pa_cons (pe_op op_add (pv 2) pe_int) pa_nil))))) pss_nil)) pss_nil) (pss_one (ps_ret (pe_lst pa_nil))))))))), ?_⟩
  walk_at "rd"
  refine a_ixL (SqL.of hl) (atI_nat hxa) ?_
  walk_at "rd"
  refine ⟨sz2, fun T hT => ?_⟩
  have g1 : Same H (upd H T (.tup [.str "jump", .int ((k : Int) + 1)])) := Same.new hT
  have hT1 : SqT K (upd H T (.tup [.str "jump", .int ((k : Int) + 1)])) T (insV ⟨"jump", some (.int ((k : Int) + 1))⟩) := SqT.of upd_same
  generalize upd H T (.tup [.str "jump", .int ((k : Int) + 1)]) = H1 at g1 hT1 ⊢
  refine b_eqRow (Same.seqT g1 hsa) hT1 hgd (good_jump _) ?_
  walk_at "rd"
  refine a_ite (fun e1 => ?_) (fun e1 => ?_)
  · have hj : r.w = "jump" := by rw [e1]
    have htg : tgt r = k + 1 := by rw [e1]; show ((k : Int) + 1).toNat = k + 1; omega
    have hlt := (tgt_lt hok (by rw [hj]; exact jump_pl)).1
    walk_at "rd"
    exact ⟨sz1, fun p hp => one H1 p g1 hp ⟨by omega, .inr ⟨hw.trans hj, ht.trans htg⟩⟩⟩
  have i1 : ¬ (wA rs k = "jump" ∧ tA rs k = k + 1) := fun z => e1 (by
    have hj : r.w = "jump" := hw.symm.trans z.1
    have h2 := (tgt_lt hok (by rw [hj]; exact jump_pl)).2
    rw [← ht, z.2, hj] at h2
    rw [h2]
    congr 2)
  walk_at "rx"
  with_reducible refine s_cut (fun σ' H' => H' = H1 ∧ σ' = [some (.ref la), some (.ref na), some (.int k), some (.ref a)] ∧ ¬ (wA rs k = "retry" ∧ k + 1 < rs.length ∧ wA rs (tA rs k) = "fail")) ?_ ?_
  · intro nx' hnx
    walk_at "rd"
    refine a_ixT (Same.seqT g1 hsa) atI0 ?_
    walk_at "rd"
    refine a_ite (fun e2 => ?_) (fun e2 => ?_)
    · have hp : plB r.w = true := by rw [e2]; exact retry_pl
      obtain ⟨hx, hlt⟩ := pl_x hv hrm hp
      obtain ⟨r2, hr4, hrm2, hw2, _⟩ := wA_of hlt
      obtain ⟨a2, hxa2, hsa2⟩ := hr2.at hr4
      walk_at "rd"
      refine a_ixT (Same.seqT g1 hsa) (atI1 hx) ?_
      refine a_ixL (SqL.of (g1 _ _ hl)) (atI_nat hxa2) ?_
      walk_at "rd"
      refine a_ixT (Same.seqT g1 hsa2) atI0 ?_
      walk_at "rd"
      refine a_ite (fun e3 => ?_) (fun e3 => ?_)
      · walk_at "rd"
        refine b_lenL (SqL.of (g1 _ _ hl)) ?_
        walk_at "rd"
        refine a_ite (fun e4 => ?_) (fun e4 => ?_)
        · walk_at "rd"
          exact ⟨sz1, fun p hp => one H1 p g1 hp ⟨by omega, .inl (by rw [hw, e2]; decide +kernel)⟩⟩
        · walk_at "rd"
          exact hnx _ _ ⟨rfl, rfl, fun z => absurd z.2.1 (by omega)⟩
      · walk_at "rd"
        exact hnx _ _ ⟨rfl, rfl, fun z => e3 (by rw [← hw2, ← ht]; exact z.2.2)⟩
    · walk_at "rd"
      exact hnx _ _ ⟨rfl, rfl, fun z => e2 (hw.symm.trans z.1)⟩
  rintro σ2 H2 ⟨rfl, rfl, i2⟩
  walk_at "rd"
  refine a_ixT (Same.seqT g1 hsa) atI0 ?_
  walk_at "rd"
  refine a_ite (fun e3 => ?_) (fun e3 => ?_)
  · walk_at "rd"; walk_at "rc"
    refine ⟨rs, na, k, nm, ⟨la, xs, rfl, g1 _ _ hl, Rows.mono g1 hr2⟩, hv, rfl, g1 _ _ hn, hnl, rfl, hk, hw.trans e3, fun v pl H' g2 nv hv' sf hno => ?_⟩
    exact q v pl H' (g1.trans g2) (Same.free g1 nv) hv' sf fun z => ⟨i1, i2, fun y => hno z y.2⟩
  have idle : IdleNo rs nm k := ⟨i1, i2, fun z => e3 (hw.symm.trans z.1)⟩
  have two : ∀ H1 p p1 p2, Same H H1 → H1 p = none → k ≤ p1 → p1 ≤ p2 → (∀ q, k ≤ q → q ≤ p2 → Pass rs q) → Q (.ref p) (upd H1 p (.lst [.int (p1 : Nat), .int (p2 : Nat)])) := fun H1 p p1 p2 g hp h1 h2 hs =>
    q p [p1, p2] _ (Same.more g hp) (Same.free g hp) upd_same ⟨by simp, fun p hp => by
      have : p = p1 ∨ p = p2 := by simpa using hp
      refine ⟨by omega, fun q h3 h4 => hs q h3 (by omega)⟩⟩ fun z => by cases z
  walk_at "rx"
  with_reducible refine s_cut (fun σ' H' => Same H H' ∧ σ' = [some (.ref la), some (.ref na), some (.int k), some (.ref a)]) ?_ ?_
  · intro nx' hnx
    with_reducible refine a_if ?_
    with_reducible refine t_cut (fun b H' => Same H H' ∧ (b = true → endB r.w = false)) ?_ ?_
    · intro R' hR
      walk_at "rd"
      refine a_ixT (Same.seqT g1 hsa) atI0 ?_
      walk_at "rd"
      cases hp : inV (.str r.w) tv_PUTTING with
      | true =>
        refine b_inT (M.tp_PUTTING _) rfl (by decide +kernel) (b := true) hp ?_
        walk_at "rd"
        exact hR _ _ ⟨g1, fun _ => put_w hp⟩
      | false =>
        refine b_inT (M.tp_PUTTING _) rfl (by decide +kernel) (b := false) hp ?_
        walk_at "rd"
        refine ⟨sz2, fun T2 hT2 => ?_⟩
        refine b_eqRow (s := ⟨"deed", some (.str "here")⟩) (Same.seqT (Same.more g1 hT2) hsa) (SqT.of upd_same) hgd (by decide +kernel) ?_
        walk_at "rd"
        exact hR _ _ ⟨Same.more g1 hT2, fun z => by rw [of_decide_eq_true z]; decide +kernel⟩
    rintro b H3 ⟨g3, hb⟩
    refine a_iteB (fun e4 => ?_) (fun e4 => ?_)
    · with_reducible refine a_if ?_
      with_reducible refine t_cut (fun c H' => H' = H3 ∧ (c = true → k + 2 < rs.length ∧ wA rs (k + 1) = "drop")) ?_ ?_
      · intro R' hR
        walk_at "rd"; walk_at "rc"
        refine ⟨na, k, 1, nm, rfl, g3 _ _ hn, rfl, rfl, by omega, by omega, fun c hc => ?_⟩
        walk_at "rd"
        refine a_iteB (fun e5 => ?_) (fun e5 => ?_)
        · have hlt := hc e5
          rw [hnl] at hlt
          obtain ⟨r2, hr4, hrm2, hw2, _⟩ := wA_of (show k + 1 < rs.length by omega)
          obtain ⟨a2, hxa2, hsa2⟩ := hr2.at hr4
          walk_at "rd"
          refine a_ixL (SqL.of (g3 _ _ hl)) (by rw [hc1]; exact atI_nat hxa2) ?_
          walk_at "rd"
          refine a_ixT (Same.seqT g3 hsa2) atI0 ?_
          walk_at "rd"
          exact hR _ _ ⟨rfl, fun z => ⟨by omega, hw2.trans (of_decide_eq_true z)⟩⟩
        · walk_at "rd"
          exact hR _ _ ⟨rfl, fun z => by cases z⟩
      rintro c H4 ⟨rfl, hc⟩
      refine a_iteB (fun e5 => ?_) (fun e5 => ?_)
      · obtain ⟨h5, h6⟩ := hc e5
        walk_at "rd"
        refine ⟨sz2, fun p hp => ?_⟩
        rw [hc1]
        refine two _ p k (k + 1) g3 hp (Nat.le_refl _) (by omega) fun q h1 h2 => ⟨by omega, .inl ?_⟩
        by_cases c2 : q = k
        · rw [c2, hw]; exact hb e4
        · rw [show q = k + 1 by omega, h6]; decide +kernel
      · walk_at "rd"
        exact hnx _ _ ⟨g3, rfl⟩
    · walk_at "rd"
      exact hnx _ _ ⟨g3, rfl⟩
  rintro σ3 H3 ⟨g3, rfl⟩
  walk_at "rx"
  with_reducible refine s_cut (fun σ' H' => Same H H' ∧ σ' = [some (.ref la), some (.ref na), some (.int k), some (.ref a)]) ?_ ?_
  · intro nx' hnx
    with_reducible refine a_if ?_
    with_reducible refine t_cut (fun b H' => H' = H3 ∧ (b = true → r.w = "give" ∧ k + 3 < rs.length)) ?_ ?_
    · intro R' hR
      walk_at "rd"
      refine a_ixT (Same.seqT g3 hsa) atI0 ?_
      walk_at "rd"
      refine a_ite (fun e4 => ?_) (fun e4 => ?_)
      · walk_at "rd"; walk_at "rc"
        refine ⟨na, k, 2, nm, rfl, g3 _ _ hn, rfl, rfl, by omega, by omega, fun c hc => ?_⟩
        walk_at "rd"
        exact hR _ _ ⟨rfl, fun z => ⟨e4, by have := hc z; omega⟩⟩
      · walk_at "rd"
        exact hR _ _ ⟨rfl, fun z => by cases z⟩
    rintro b H4 ⟨rfl, hb⟩
    refine a_iteB (fun e4 => ?_) (fun e4 => ?_)
    · obtain ⟨hg, h3n⟩ := hb e4
      obtain ⟨v, hx, hgv⟩ := give_x hok hg
      obtain ⟨r2, hr4, hrm2, hw2, _⟩ := wA_of (show k + 1 < rs.length by omega)
      obtain ⟨a2, hxa2, hsa2⟩ := hr2.at hr4
      obtain ⟨r5, hr6, hrm5, hw5, _⟩ := wA_of (show k + 2 < rs.length by omega)
      obtain ⟨a5, hxa5, hsa5⟩ := hr2.at hr6
      have hc2 : ((k : Int) + 2) = ((k + 2 : Nat) : Int) := by omega
      with_reducible refine a_if ?_
      with_reducible refine t_cut (fun c H' => Same H H' ∧ (c = true → wA rs (k + 1) = "drop" ∧ wA rs (k + 2) = "name")) ?_ ?_
      · intro R' hR
        walk_at "rd"
        refine a_ixL (SqL.of (g3 _ _ hl)) (by rw [hc1]; exact atI_nat hxa2) ?_
        walk_at "rd"
        refine a_ixT (Same.seqT g3 hsa2) atI0 ?_
        walk_at "rd"
        refine a_ite (fun e5 => ?_) (fun e5 => ?_)
        · walk_at "rd"
          refine a_ixL (SqL.of (g3 _ _ hl)) (by rw [hc2]; exact atI_nat hxa5) ?_
          walk_at "rd"
          refine a_ixT (Same.seqT g3 hsa) (atI1 hx) ?_
          walk_at "rd"
          refine ⟨sz2, fun T2 hT2 => ?_⟩
          refine b_eqRow (s := ⟨"name", some v⟩) (Same.seqT (Same.more g3 hT2) hsa5) (SqT.of upd_same) (hv.good _ hrm5) (good_name hgv) ?_
          walk_at "rd"
          exact hR _ _ ⟨Same.more g3 hT2, fun z => ⟨hw2.trans e5, by rw [hw5, of_decide_eq_true z]⟩⟩
        · walk_at "rd"
          exact hR _ _ ⟨g3, fun z => by cases z⟩
      rintro c H5 ⟨g5, hc⟩
      refine a_iteB (fun e5 => ?_) (fun e5 => ?_)
      · obtain ⟨h5, h6⟩ := hc e5
        walk_at "rd"
        refine ⟨sz2, fun p hp => ?_⟩
        rw [hc1, hc2]
        refine two _ p (k + 1) (k + 2) g5 hp (by omega) (by omega) fun q h1 h2 => ⟨by omega, .inl ?_⟩
        by_cases c2 : q = k
        · rw [c2, hw, hg]; decide +kernel
        · by_cases c3 : q = k + 1
          · rw [c3, h5]; decide +kernel
          · rw [show q = k + 2 by omega, h6]; decide +kernel
      · walk_at "rd"
        exact hnx _ _ ⟨g5, rfl⟩
    · walk_at "rd"
      exact hnx _ _ ⟨g3, rfl⟩
  rintro σ4 H4 ⟨g4, rfl⟩
  walk_at "rd"
  refine ⟨by decide, fun p hp => ?_⟩
  exact q p [] _ (Same.more g4 hp) (Same.free g4 hp) upd_same Safe.nil fun _ => idle
end

end T51

set_option Elab.async false
set_option linter.all false
set_option maxRecDepth 100000
set_option maxHeartbeats 4000000
namespace T51
open PySem PySem.Spec PyProof.Rows L2
local macro_rules | `(tactic| walk_at "rd1") => `(tactic| with_reducible first
  | refine a_seq ?_ | refine a_var rfl ?_ | refine a_c ?_ | refine a_op ?_ | refine a_cons ?_ | refine a_nil ?_ | refine a_cb ?_ | refine a_asg ?_ | refine a_gname ?_ | refine a_ret ?_
  | refine a_if ?_ | refine a_test ?_ | refine a_tB ?_ | refine a_blP ?_ | refine a_and ?_ | refine a_or ?_ | refine a_not ?_ | refine a_andV ?_ | refine a_orV ?_ | refine a_notV ?_ | refine a_ifE ?_
  | refine a_rI0 ?_ | refine a_eqS ?_ | refine a_eqI ?_ | refine a_neS ?_ | refine a_neI ?_ | refine a_call ?_ | refine a_tup ?_ | refine a_lst ?_ | refine a_chain ?_ | refine a_iteT ?_ | refine a_iteF ?_ | refine a_iteNT ?_ | refine a_iteNF ?_
  | refine a_drop ?_ | refine a_next ?_ | refine a_cont ?_ | refine a_break ?_ | refine a_retN ?_ | refine a_ipI ?_ | refine a_aug rfl ?_ | refine a_bm ?_ | refine a_bm0 ?_ | refine b_ord ?_ | refine b_int ?_ | refine b_isN ?_ | refine b_notN ?_ | refine a_un ?_ | refine b_rU ?_ | refine a_fld ?_ | refine a_sfld ?_ | refine a_meth ?_ | refine a_make ?_
  | refine a_dget ?_ | refine a_din ?_ | refine a_dnin ?_ | refine a_dput ?_ | refine a_yes ?_ | refine a_gsub ?_)
local macro_rules | `(tactic| walk_at "is") => `(tactic| with_reducible first
  | refine a_isi_int_int ?_ | refine a_isi_int_bool ?_ | refine a_isi_int_str ?_ | refine a_isi_int_list ?_ | refine a_isi_int_tuple ?_ | refine a_isi_int_dict ?_
  | refine a_isi_bl_int ?_ | refine a_isi_bl_bool ?_ | refine a_isi_bl_str ?_ | refine a_isi_bl_list ?_ | refine a_isi_bl_tuple ?_ | refine a_isi_bl_dict ?_
  | refine a_isi_str_int ?_ | refine a_isi_str_bool ?_ | refine a_isi_str_str ?_ | refine a_isi_str_list ?_ | refine a_isi_str_tuple ?_ | refine a_isi_str_dict ?_
  | refine a_isi_non_int ?_ | refine a_isi_non_bool ?_ | refine a_isi_non_str ?_ | refine a_isi_non_list ?_ | refine a_isi_non_tuple ?_ | refine a_isi_non_dict ?_)
local macro_rules | `(tactic| walk_at "rd") => `(tactic| repeat (walk_at "rd1"))
local macro_rules | `(tactic| walk_at "hp") => `(tactic| first
  | with_reducible assumption
  | with_reducible exact upd_same
  | (with_reducible refine SqL.of ?_; walk_at "hp")
  | (with_reducible refine SqT.of ?_; walk_at "hp")
  | (with_reducible refine Eq.trans (upd_ne ?_) ?_; rotate_left; focus (walk_at "hp"); walk_at "ne")
  | (with_reducible refine (by with_reducible assumption : Same _ _) _ _ ?_; walk_at "hp"))
local macro_rules | `(tactic| walk_at "ne") => `(tactic| first
  | with_reducible assumption
  | with_reducible exact Ne.symm (by with_reducible assumption)
  | (with_reducible refine ne_of_none ?_ (by with_reducible assumption); walk_at "hp")
  | (with_reducible refine Ne.symm (ne_of_none ?_ (by with_reducible assumption)); walk_at "hp"))
local macro_rules | `(tactic| walk_at "rc") => `(tactic| with_reducible first
  | refine a_s1 ?_ | refine a_s2 ?_ | refine a_s3 ?_ | refine a_s4 ?_ | refine a_s0 ?_ | refine a_m1 ?_ | refine a_m2 ?_ | refine a_m3 ?_ | refine a_m4 ?_)
local macro_rules | `(tactic| walk_at "rx1") => `(tactic| with_reducible first
  | refine a_var rfl ?_ | refine a_c ?_ | refine a_op ?_ | refine a_cons ?_ | refine a_nil ?_ | refine a_cb ?_ | refine a_asg ?_ | refine a_gname ?_ | refine a_ret ?_
  | refine a_if ?_ | refine a_test ?_ | refine a_tB ?_ | refine a_blP ?_ | refine a_and ?_ | refine a_or ?_ | refine a_not ?_ | refine a_andV ?_ | refine a_orV ?_ | refine a_notV ?_ | refine a_ifE ?_
  | refine a_rI0 ?_ | refine a_eqS ?_ | refine a_eqI ?_ | refine a_neS ?_ | refine a_neI ?_ | refine a_call ?_ | refine a_tup ?_ | refine a_lst ?_ | refine a_chain ?_ | refine a_iteT ?_ | refine a_iteF ?_ | refine a_iteNT ?_ | refine a_iteNF ?_
  | refine a_drop ?_ | refine a_next ?_ | refine a_cont ?_ | refine a_break ?_ | refine a_retN ?_ | refine a_ipI ?_ | refine a_aug rfl ?_ | refine a_bm ?_ | refine a_bm0 ?_ | refine b_ord ?_ | refine b_int ?_ | refine b_isN ?_ | refine b_notN ?_ | refine a_un ?_ | refine b_rU ?_ | refine a_fld ?_ | refine a_sfld ?_ | refine a_meth ?_ | refine a_make ?_
  | refine a_dget ?_ | refine a_din ?_ | refine a_dnin ?_ | refine a_dput ?_ | refine a_yes ?_ | refine a_gsub ?_)
local macro_rules | `(tactic| walk_at "rx") => `(tactic| repeat (walk_at "rx1"))
section
variable {P : Program} {w : World} {K : PySem.W.Frag} {mg : Str → Option Value} {base : Heap}
theorem a_flist {K : PySem.W.Frag} {td : TE} {g : TG} {tb : TS} {D : Ends} {σ : L2.St} {H : Hp} (h : td σ H fun x H1 => ∃ a, x = .ref a ∧ (∃ xs, SqL K H1 a xs) ∧ tFor (fun _ H R => R (Itl K a) H) g tb D σ H1) : tFor (iList K td) g tb D σ H := h
/-! ### what stays -/
def IdleA (rs : List Ins) (ss : List Nat) (i : Nat) : Prop := ¬ (wA rs i = "jump" ∧ tA rs i = i + 1) ∧ ¬ (wA rs i = "retry" ∧ i + 1 < rs.length ∧ wA rs (tA rs i) = "fail") ∧ (wA rs i = "open" → i + 2 < rs.length → wA rs (i + 1) = "shut" → Names rs ss (i + 1))
theorem IdleNo.a {rs : List Ins} {ss : List Nat} {nm : List Bool} {i : Nat} (h : IdleNo rs nm i) (hn : ∀ i, fl nm i = true → Names rs ss i) : IdleA rs ss i :=
  ⟨h.1, h.2.1, fun h1 h2 h3 => by
    cases e : fl nm (i + 1) with
    | true => exact hn _ e
    | false => exact absurd ⟨h1, h2, h3, e⟩ h.2.2⟩
structure Kept (rs : List Ins) (ss : List Nat) (st : List Bool) : Prop where
  len : st.length = rs.length
  sound : ∀ i, fl st i = true → Reach rs ss i
  on : ∀ i, Reach rs ss i → ∃ j, i ≤ j ∧ fl st j = true
  tidy : (∀ i, i < rs.length → fl st i = true) → ∀ i, i < rs.length → IdleA rs ss i
theorem reach_pass {rs : List Ins} {ss : List Nat} {i : Nat} (h : Reach rs ss i) (p : Pass rs i) : Reach rs ss (i + 1) := by
  rcases p.2 with h1 | ⟨h1, h2⟩
  · exact .on h h1 p.1
  · rw [← h2]
    exact .to h (by rw [h1]; exact jump_pl) (by rw [h2]; exact p.1)
theorem on_of {rs : List Ins} {ss : List Nat} {st : List Bool} (hp : ∀ i, Reach rs ss i → fl st i = true ∨ Pass rs i) : ∀ (m i : Nat), m = rs.length - i → Reach rs ss i → ∃ j, i ≤ j ∧ fl st j = true
  | 0, i, e, h => by
    rcases hp i h with h1 | h1
    · exact ⟨i, Nat.le_refl _, h1⟩
    · have := h1.1; omega
  | m + 1, i, e, h => by
    rcases hp i h with h1 | h1
    · exact ⟨i, Nat.le_refl _, h1⟩
    · obtain ⟨j, h2, h3⟩ := on_of hp m (i + 1) (by omega) (reach_pass h h1)
      exact ⟨j, by omega, h3⟩
theorem fl_setF {bs : List Bool} {i j : Nat} (h : i < bs.length) : fl (bs.set i false) j = true ↔ j ≠ i ∧ fl bs j = true := by
  rw [fl_set h]
  by_cases e : i = j
  · rw [if_pos e]; simp [e]
  · rw [if_neg e]
    exact ⟨fun z => ⟨fun y => e y.symm, z⟩, fun z => z.2⟩
abbrev N_kept_places : List Str := ["lines", "starts", "stays", "named", "at", "place"]
abbrev S_kept_places : Scope := defScope (top 60)
theorem sc_kept_places : FnScope N_kept_places ["lines", "starts"] (defScope (top 60)) := ⟨rfl, rfl, rfl, by decide +kernel, rfl, by decide +kernel, by decide +kernel⟩
def f_kept (K : PySem.W.Frag) (l s : V) (H : Hp) (Q : VK) : Prop := ∃ rs sa kvs, LnAt K H l rs ∧ Valid rs ∧ s = .ref sa ∧ H sa = some (.dK kvs) ∧ EnOk kvs rs.length ∧
  ∀ v (st : List Bool) H', Same H H' → H v = none → H' v = some (.lst (st.map V.bl)) → Kept rs (stP kvs) st → Q (.ref v) H'
theorem ok_kept (M : Md w K mg) (C_reached_places : Cal P w K mg base 1 "reached_places" ["lines", "starts"] (s2 (f_reached K))) (C_named_places : Cal P w K mg base 1 "named_places" ["lines", "starts", "reached"] (s3 (f_named K)))
    (C_idle_places : Cal P w K mg base 3 "idle_places" ["lines", "named", "at"] (s3 (f_idle K))) : Cal P w K mg base 4 "kept_places" ["lines", "starts"] (s2 (f_kept K)) := by
  obtain ⟨fd, F⟩ := M.fd_kept_places
  refine ⟨⟨_, fd, fn_of_d F sc_kept_places s2_len (fun cdv A outer s H vs Q E hr h => ?_), M.gl_kept_places, F.kp, F.bindsN fun _ _ _ _ _ _ us hl => match us, hl with | [_, _], _ => rfl⟩⟩
  have hu := hu_of hr
  have nd := sc_kept_places.nd
  obtain ⟨_, _, rfl, rs, sa, kvs, ⟨la, xs, rfl, hl, hr2⟩, hv, rfl, hs, hen, q⟩ := h
  have hlen := hr2.len
  have hn9 := hv.2.1
  refine ⟨_, (pss_cons (ps_set (i := 2) nd rfl (Or.inl rfl) (pe_cl C_reached_places (hr.mono (by first | decide | omega)) rfl (pa_cons (pv 0) (pa_cons (pv 1) pa_nil)))) (pss_cons (ps_set (i := 3) nd rfl (Or.inl rfl) (pe_cl C_named_places (hr.mono (by first | decide | omega)) rfl (pa_cons (pv 0) (pa_cons (pv 1) (pa_cons (pv 2) pa_nil))))) (pss_cons (ps_set (i := 4) nd rfl (Or.inl rfl) pe_int) (pss_cons (ps_while PassesOwn.never (pt_cmpR op_lt (pv 4) (pe_callB (call_lenK (K := K) rfl) rfl M.fr_len PySem.boot_len (pa_cons (pv 0) pa_nil)) (nomark _)) (pss_cons (ps_if (pt_val (pe_ix (ix_listK (K := K) rfl) (pv 2) (pv 4) (fun _ _ => rfl))) (pss_one (ps_for PassesOwn.never rfl (pi_list (pe_cl C_idle_places (hr.mono (by first | decide | omega)) rfl (pa_cons (pv 0) (pa_cons (pv 3) (pa_cons (pv 4) pa_nil))))) (pg_name (i := 5) nd rfl (Or.inl rfl)) (pss_cons (ps_asg pe_bl (pg_sub (pv 2) (pv 5) set_list)) (pss_one (ps_set (i := 4) nd rfl (Or.inl rfl) (pv 5)))))) pss_nil) (pss_one (ps_aug (i := 4) nd rfl (Or.inl rfl) pe_int ip_add)))) (pss_one (ps_ret (pv 2))))))), ?_⟩
  walk_at "rd"; walk_at "rc"
  refine ⟨rs, sa, kvs, ⟨la, xs, rfl, hl, hr2⟩, hv, rfl, hs, hen, fun rb bs H1 g1 hrb hb1 hR => ?_⟩
  walk_at "rd"; walk_at "rc"
  refine ⟨rs, sa, kvs, rb, bs, ⟨la, xs, rfl, g1 _ _ hl, Rows.mono g1 hr2⟩, hv, rfl, g1 _ _ hs, hen, rfl, hb1, hR.len, fun nb nm H2 g2 hnb hn2 hnl hN => ?_⟩
  have nnr : nb ≠ rb := (ne_of_none hb1 hnb).symm
  have hb2 := g2 _ _ hb1
  have g12 := g1.trans g2
  let Inv : Nat → List Bool → Hp → Prop := fun i st H' => Same H H' ∧ H' nb = some (.lst (nm.map V.bl)) ∧ H' rb = some (.lst (st.map V.bl)) ∧ st.length = rs.length ∧ (∀ j, fl st j = true → Reach rs (stP kvs) j) ∧ (∀ j, Reach rs (stP kvs) j → fl st j = true ∨ Pass rs j)
  let Lf : List Bool → Prop := fun st => ∃ j, j < rs.length ∧ fl st j = false
  walk_at "rd"
  refine ⟨fun d σ H' => ∃ i st v, d = rs.length - i ∧ σ = [some (.ref la), some (.ref sa), some (.ref rb), some (.ref nb), some (.int (i : Nat)), v] ∧ Inv i st H' ∧ (Lf st ∨ ∀ j, j < i → IdleA rs (stP kvs) j),
    ⟨_, 0, bs, none, rfl, rfl, ⟨g12, hn2, hb2, hR.len, hR.sound, fun j hj => .inl (hR.full j hj)⟩, .inr fun j hj => absurd hj (Nat.not_lt_zero _)⟩, ?_⟩
  rintro d σ H3 ⟨i, st, v, rfl, rfl, ⟨g3, hn3, hb3, hsl, hsd, hps⟩, hlf⟩
  walk_at "rd"
  refine b_lenL (SqL.of (g3 _ _ hl)) ?_
  walk_at "rd"
  refine a_ite (fun e1 => ?_) (fun e1 => ?_)
  · have hi : i < rs.length := by omega
    with_reducible refine ⟨fun σ' H' => ∃ d, d < rs.length - i ∧ ∃ i st v, d = rs.length - i ∧ σ' = [some (.ref la), some (.ref sa), some (.ref rb), some (.ref nb), some (.int (i : Nat)), v] ∧ Inv i st H' ∧ (Lf st ∨ ∀ j, j < i → IdleA rs (stP kvs) j), fun σ' H' ⟨d, h1, h2⟩ => ⟨d, h1, h2⟩, ?_⟩
    have hc : ∀ i : Nat, ((i : Int) + 1) = ((i + 1 : Nat) : Int) := fun i => by omega
    with_reducible refine s_cut (fun σ' H' => ∃ i' st v, σ' = [some (.ref la), some (.ref sa), some (.ref rb), some (.ref nb), some (.int (i' : Nat)), v] ∧ i ≤ i' ∧ i' < rs.length ∧ Inv i' st H' ∧ (Lf st ∨ ∀ j, j < i' + 1 → IdleA rs (stP kvs) j)) ?_ ?_
    · intro nx' hnx
      walk_at "rd"
      refine a_ixL (SqL.of hb3) (bat (fl_at (by rw [hsl]; exact hi))) ?_
      walk_at "rd"
      refine a_iteB (fun e2 => ?_) (fun e2 => ?_)
      · walk_at "rd"
        refine a_flist ?_
        walk_at "rd"; walk_at "rc"
        refine ⟨rs, nb, i, nm, ⟨la, xs, rfl, g3 _ _ hl, Rows.mono g3 hr2⟩, hv, rfl, hn3, hnl, rfl, hi, fun pa pl H4 g4 hpa hp4 sf hno => ?_⟩
        have nrp : rb ≠ pa := ne_of_none hb3 hpa
        refine ⟨pa, rfl, ⟨_, SqL.of hp4⟩, ?_⟩
        have hpl : (nV pl).length = pl.length := List.length_map _
        refine for_list (xs := nV pl) (fun m σ H5 => H5 pa = some (.lst (nV pl)) ∧ ∃ i' st v, σ = [some (.ref la), some (.ref sa), some (.ref rb), some (.ref nb), some (.int (i' : Nat)), v] ∧ i ≤ i' ∧ i' < rs.length ∧ Inv i' st H5 ∧ (Lf st ∨ (m = 0 ∧ i' = i ∧ ∀ j, j < i → IdleA rs (stP kvs) j)))
          ⟨hp4, i, st, v, rfl, Nat.le_refl _, hi, ⟨g3.trans g4, g4 _ _ hn3, g4 _ _ hb3, hsl, hsd, hps⟩, hlf.elim .inl fun z => .inr ⟨rfl, rfl, z⟩⟩ (fun m σ H5 _ z => SqL.of z.1) ?_ ?_
        · rintro m x σ H5 hx ⟨hp5, i', st5, v5, rfl, hii, hin, ⟨g5, hn5, hb5, hsl5, hsd5, hps5⟩, _⟩
          rw [List.getElem?_map] at hx
          obtain ⟨p, hp, rfl⟩ := Option.map_eq_some_iff.mp hx
          obtain ⟨h1, h2⟩ := sf.2 p (List.mem_of_getElem? hp)
          have hpn := (h2 p h1 (Nat.le_refl _)).1
          walk_at "rd"
          refine b_set hb5 (by rw [List.length_map, hsl5]; omega) ?_
          rw [map_setT]
          walk_at "rd"
          have hf := fun j => fl_setF (bs := st5) (i := p) (j := j) (by omega)
          refine ⟨by rw [upd_ne nrp.symm]; exact hp5, p, st5.set p false, _, rfl, h1, by omega, ⟨Same.mut g5 hrb, by rw [upd_ne nnr]; exact hn5, upd_same, by rw [List.length_set]; exact hsl5, fun j hj => hsd5 j ((hf j).mp hj).2, fun j hj => ?_⟩, .inl ⟨p, by omega, ?_⟩⟩
          · by_cases c : j = p
            · exact .inr (by rw [c]; exact h2 p h1 (Nat.le_refl _))
            · rcases hps5 j hj with z | z
              · exact .inl ((hf j).mpr ⟨c, z⟩)
              · exact .inr z
          · rw [fl_set (by omega), if_pos rfl]
        · rintro σ H5 ⟨hp5, i', st5, v5, rfl, hii, hin, hI, hz⟩
          refine hnx _ _ ⟨i', st5, v5, rfl, hii, hin, hI, ?_⟩
          rcases hz with hz | ⟨h1, h2, h3⟩
          · exact .inl hz
          · refine .inr fun j hj => ?_
            by_cases c : j < i
            · exact h3 j c
            · rw [hpl] at h1
              rw [show j = i by omega]
              exact (hno (List.eq_nil_of_length_eq_zero h1)).a hN
      · walk_at "rd"
        exact hnx _ _ ⟨i, st, v, rfl, Nat.le_refl _, hi, ⟨g3, hn3, hb3, hsl, hsd, hps⟩, .inl ⟨i, hi, e2⟩⟩
    rintro σ4 H4 ⟨i', st4, v4, rfl, h1, h2, hI, hz⟩
    walk_at "rd"
    rw [hc]
    exact ⟨rs.length - (i' + 1), by omega, i' + 1, st4, v4, rfl, rfl, hI, hz⟩
  · walk_at "rd"
    refine q _ st _ g3 hrb hb3 ⟨hsl, hsd, fun i hi => on_of hps _ i rfl hi, fun hall => ?_⟩
    rcases hlf with ⟨j, h1, h2⟩ | hz
    · rw [hall j h1] at h2; cases h2
    · exact fun j hj => hz j (by omega)
end

end T51

set_option Elab.async false
set_option linter.all false
set_option maxRecDepth 100000
set_option maxHeartbeats 4000000
namespace T51
open PySem PySem.Spec PyProof.Rows L2
local macro_rules | `(tactic| walk_at "rd1") => `(tactic| with_reducible first
  | refine a_seq ?_ | refine a_var rfl ?_ | refine a_c ?_ | refine a_op ?_ | refine a_cons ?_ | refine a_nil ?_ | refine a_cb ?_ | refine a_asg ?_ | refine a_gname ?_ | refine a_ret ?_
  | refine a_if ?_ | refine a_test ?_ | refine a_tB ?_ | refine a_blP ?_ | refine a_and ?_ | refine a_or ?_ | refine a_not ?_ | refine a_andV ?_ | refine a_orV ?_ | refine a_notV ?_ | refine a_ifE ?_
  | refine a_rI0 ?_ | refine a_eqS ?_ | refine a_eqI ?_ | refine a_neS ?_ | refine a_neI ?_ | refine a_call ?_ | refine a_tup ?_ | refine a_lst ?_ | refine a_chain ?_ | refine a_iteT ?_ | refine a_iteF ?_ | refine a_iteNT ?_ | refine a_iteNF ?_
  | refine a_drop ?_ | refine a_next ?_ | refine a_cont ?_ | refine a_break ?_ | refine a_retN ?_ | refine a_ipI ?_ | refine a_aug rfl ?_ | refine a_bm ?_ | refine a_bm0 ?_ | refine b_ord ?_ | refine b_int ?_ | refine b_isN ?_ | refine b_notN ?_ | refine a_un ?_ | refine b_rU ?_ | refine a_fld ?_ | refine a_sfld ?_ | refine a_meth ?_ | refine a_make ?_
  | refine a_dget ?_ | refine a_din ?_ | refine a_dnin ?_ | refine a_dput ?_ | refine a_yes ?_ | refine a_gsub ?_)
local macro_rules | `(tactic| walk_at "is") => `(tactic| with_reducible first
  | refine a_isi_int_int ?_ | refine a_isi_int_bool ?_ | refine a_isi_int_str ?_ | refine a_isi_int_list ?_ | refine a_isi_int_tuple ?_ | refine a_isi_int_dict ?_
  | refine a_isi_bl_int ?_ | refine a_isi_bl_bool ?_ | refine a_isi_bl_str ?_ | refine a_isi_bl_list ?_ | refine a_isi_bl_tuple ?_ | refine a_isi_bl_dict ?_
  | refine a_isi_str_int ?_ | refine a_isi_str_bool ?_ | refine a_isi_str_str ?_ | refine a_isi_str_list ?_ | refine a_isi_str_tuple ?_ | refine a_isi_str_dict ?_
  | refine a_isi_non_int ?_ | refine a_isi_non_bool ?_ | refine a_isi_non_str ?_ | refine a_isi_non_list ?_ | refine a_isi_non_tuple ?_ | refine a_isi_non_dict ?_)
local macro_rules | `(tactic| walk_at "rd") => `(tactic| repeat (walk_at "rd1"))
local macro_rules | `(tactic| walk_at "hp") => `(tactic| first
  | with_reducible assumption
  | with_reducible exact upd_same
  | (with_reducible refine SqL.of ?_; walk_at "hp")
  | (with_reducible refine SqT.of ?_; walk_at "hp")
  | (with_reducible refine Eq.trans (upd_ne ?_) ?_; rotate_left; focus (walk_at "hp"); walk_at "ne")
  | (with_reducible refine (by with_reducible assumption : Same _ _) _ _ ?_; walk_at "hp"))
local macro_rules | `(tactic| walk_at "ne") => `(tactic| first
  | with_reducible assumption
  | with_reducible exact Ne.symm (by with_reducible assumption)
  | (with_reducible refine ne_of_none ?_ (by with_reducible assumption); walk_at "hp")
  | (with_reducible refine Ne.symm (ne_of_none ?_ (by with_reducible assumption)); walk_at "hp"))
local macro_rules | `(tactic| walk_at "rc") => `(tactic| with_reducible first
  | refine a_s1 ?_ | refine a_s2 ?_ | refine a_s3 ?_ | refine a_s4 ?_ | refine a_s0 ?_ | refine a_m1 ?_ | refine a_m2 ?_ | refine a_m3 ?_ | refine a_m4 ?_)
local macro_rules | `(tactic| walk_at "rx1") => `(tactic| with_reducible first
  | refine a_var rfl ?_ | refine a_c ?_ | refine a_op ?_ | refine a_cons ?_ | refine a_nil ?_ | refine a_cb ?_ | refine a_asg ?_ | refine a_gname ?_ | refine a_ret ?_
  | refine a_if ?_ | refine a_test ?_ | refine a_tB ?_ | refine a_blP ?_ | refine a_and ?_ | refine a_or ?_ | refine a_not ?_ | refine a_andV ?_ | refine a_orV ?_ | refine a_notV ?_ | refine a_ifE ?_
  | refine a_rI0 ?_ | refine a_eqS ?_ | refine a_eqI ?_ | refine a_neS ?_ | refine a_neI ?_ | refine a_call ?_ | refine a_tup ?_ | refine a_lst ?_ | refine a_chain ?_ | refine a_iteT ?_ | refine a_iteF ?_ | refine a_iteNT ?_ | refine a_iteNF ?_
  | refine a_drop ?_ | refine a_next ?_ | refine a_cont ?_ | refine a_break ?_ | refine a_retN ?_ | refine a_ipI ?_ | refine a_aug rfl ?_ | refine a_bm ?_ | refine a_bm0 ?_ | refine b_ord ?_ | refine b_int ?_ | refine b_isN ?_ | refine b_notN ?_ | refine a_un ?_ | refine b_rU ?_ | refine a_fld ?_ | refine a_sfld ?_ | refine a_meth ?_ | refine a_make ?_
  | refine a_dget ?_ | refine a_din ?_ | refine a_dnin ?_ | refine a_dput ?_ | refine a_yes ?_ | refine a_gsub ?_)
local macro_rules | `(tactic| walk_at "rx") => `(tactic| repeat (walk_at "rx1"))
/-! ### closing up -/
def cnt (st : List Bool) : Nat → Nat
  | 0 => 0
  | i + 1 => cnt st i + (if fl st i = true then 1 else 0)
theorem cnt_le (st : List Bool) : ∀ i, cnt st i ≤ i
  | 0 => Nat.le_refl _
  | i + 1 => by
    have := cnt_le st i
    show cnt st i + _ ≤ i + 1
    split <;> omega
theorem cnt_mono (st : List Bool) {i : Nat} : ∀ {j : Nat}, i ≤ j → cnt st i ≤ cnt st j
  | 0, h => by rw [show i = 0 by omega]; exact Nat.le_refl _
  | j + 1, h => by
    by_cases e : i = j + 1
    · rw [e]; exact Nat.le_refl _
    · have := cnt_mono st (i := i) (j := j) (by omega)
      show cnt st i ≤ cnt st j + _
      omega
theorem cnt_lt {st : List Bool} {i j n : Nat} (h : i ≤ j) (hj : j < n) (hf : fl st j = true) : cnt st i < cnt st n := by
  have h1 := cnt_mono st h
  have h2 := cnt_mono st (show j + 1 ≤ n from hj)
  have h3 : cnt st (j + 1) = cnt st j + 1 := by
    show cnt st j + (if fl st j = true then 1 else 0) = _
    rw [if_pos hf]
  omega
theorem cnt_all {st : List Bool} {n : Nat} (h : ∀ i, i < n → fl st i = true) : ∀ i, i ≤ n → cnt st i = i
  | 0, _ => rfl
  | i + 1, hi => by
    show cnt st i + (if fl st i = true then 1 else 0) = _
    rw [if_pos (h i (by omega)), cnt_all h i (by omega)]
theorem cnt_some {st : List Bool} {j n : Nat} (hj : j < n) (h : fl st j = false) : cnt st n < n := by
  have h1 := cnt_le st j
  have h3 : cnt st (j + 1) = cnt st j := by
    show cnt st j + (if fl st j = true then 1 else 0) = _
    rw [if_neg (by rw [h]; exact Bool.false_ne_true)]
    rfl
  have key : ∀ m, cnt st (j + 1 + m) ≤ cnt st (j + 1) + m := by
    intro m
    induction m with
    | zero => exact Nat.le_refl _
    | succ m ih =>
      show cnt st (j + 1 + m) + (if fl st (j + 1 + m) = true then 1 else 0) ≤ _
      split <;> omega
  have h2 := key (n - (j + 1))
  rw [show j + 1 + (n - (j + 1)) = n by omega] at h2
  omega
def mvI (st : List Bool) (r : Ins) : Ins := if plB r.w = true then ⟨r.w, some (.int (cnt st (tgt r) : Nat))⟩ else r
def clo (rs : List Ins) (st : List Bool) : Nat → List Ins
  | 0 => []
  | i + 1 => clo rs st i ++ (match rs[i]? with
    | some r => if fl st i = true then [mvI st r] else []
    | none => [])
theorem clo_T {rs : List Ins} {st : List Bool} {i : Nat} {r : Ins} (e : rs[i]? = some r) (h : fl st i = true) : clo rs st (i + 1) = clo rs st i ++ [mvI st r] := by
  show clo rs st i ++ _ = _
  rw [e]
  show clo rs st i ++ (if fl st i = true then [mvI st r] else []) = _
  rw [if_pos h]
theorem clo_F {rs : List Ins} {st : List Bool} {i : Nat} (h : fl st i = false) : clo rs st (i + 1) = clo rs st i := by
  show clo rs st i ++ _ = _
  cases rs[i]? with
  | none => exact List.append_nil _
  | some r =>
    show clo rs st i ++ (if fl st i = true then [mvI st r] else []) = _
    rw [if_neg (by rw [h]; exact Bool.false_ne_true)]
    exact List.append_nil _
theorem clo_len {rs : List Ins} {st : List Bool} : ∀ i, i ≤ rs.length → (clo rs st i).length = cnt st i
  | 0, _ => rfl
  | i + 1, hi => by
    have e : rs[i]? = some rs[i] := List.getElem?_eq_getElem hi
    have ih := clo_len (rs := rs) (st := st) i (by omega)
    show _ = cnt st i + (if fl st i = true then 1 else 0)
    cases h : fl st i with
    | true => rw [clo_T e h, List.length_append, ih]; rfl
    | false => rw [clo_F h, ih]; rfl
theorem clo_mem {rs : List Ins} {st : List Bool} {x : Ins} : ∀ i, x ∈ clo rs st i → ∃ j r, j < i ∧ rs[j]? = some r ∧ fl st j = true ∧ x = mvI st r
  | 0, h => by simp [clo] at h
  | i + 1, h => by
    cases hf : fl st i with
    | false =>
      rw [clo_F hf] at h
      obtain ⟨j, r, h1, h2⟩ := clo_mem i h
      exact ⟨j, r, by omega, h2⟩
    | true =>
      cases e : rs[i]? with
      | none =>
        have : clo rs st (i + 1) = clo rs st i := by
          show clo rs st i ++ _ = _
          rw [e]
          exact List.append_nil _
        rw [this] at h
        obtain ⟨j, r, h1, h2⟩ := clo_mem i h
        exact ⟨j, r, by omega, h2⟩
      | some r =>
        rw [clo_T e hf] at h
        rcases List.mem_append.mp h with h | h
        · obtain ⟨j, r, h1, h2⟩ := clo_mem i h
          exact ⟨j, r, by omega, h2⟩
        · exact ⟨i, r, by omega, e, hf, List.mem_singleton.mp h⟩
def pOf : V → Nat
  | .int i => i.toNat
  | _ => 0
def newK (st : List Bool) (kvs : List (Key × V)) : List (Key × V) := kvs.map fun kv => (kv.1, V.int (cnt st (pOf kv.2) : Nat))
theorem stP_eq (kvs : List (Key × V)) : stP kvs = kvs.map fun kv => pOf kv.2 := by
  unfold stP
  refine List.map_congr_left fun kv _ => ?_
  obtain ⟨k, v⟩ := kv
  cases v <;> rfl
theorem stP_new (st : List Bool) (kvs : List (Key × V)) : stP (newK st kvs) = (stP kvs).map (cnt st) := by
  rw [stP_eq, stP_eq]
  unfold newK
  rw [List.map_map, List.map_map]
  refine List.map_congr_left fun kv _ => ?_
  show ((cnt st (pOf kv.2) : Nat) : Int).toNat = cnt st (pOf kv.2)
  omega
theorem new_keys (st : List Bool) (kvs : List (Key × V)) : (newK st kvs).map (·.1) = kvs.map (·.1) := by
  unfold newK
  rw [List.map_map]
  rfl
/-- what is closed up is right again -/
theorem clo_valid {rs : List Ins} {ss : List Nat} {st : List Bool} (hv : Valid rs) (hk : Kept rs ss st) (h1 : 1 ≤ cnt st rs.length) : Valid (clo rs st rs.length) := by
  have hl := clo_len (rs := rs) (st := st) rs.length (Nat.le_refl _)
  refine ⟨by rw [hl]; exact h1, by rw [hl]; have := cnt_le st rs.length; have := hv.2.1; omega, fun x hx => ?_⟩
  obtain ⟨j, r, hj, e, hf, rfl⟩ := clo_mem _ hx
  rw [hl]
  have hok := hv.2.2 r (List.mem_of_getElem? e)
  unfold mvI
  by_cases p : plB r.w = true
  · rw [if_pos p]
    have ht := (tgt_lt hok p).1
    have hr := hk.sound j hf
    have hw := wA_at e
    have hta := tA_at e
    obtain ⟨i, hi, hfi⟩ := hk.on (tgt r) (by rw [← hta]; exact .to hr (by rw [hw]; exact p) (by rw [hta]; exact ht))
    have hin := fl_lt hfi
    rw [hk.len] at hin
    exact pl_ok p (by have := cnt_lt (n := rs.length) hi hin hfi; omega)
  · rw [if_neg p]
    exact ok_other hok (by cases h : plB r.w <;> simp_all)
theorem new_ok {rs : List Ins} {kvs : List (Key × V)} {st : List Bool} (hen : EnOk kvs rs.length) (hk : Kept rs (stP kvs) st) : EnOk (newK st kvs) (cnt st rs.length) := by
  refine ⟨by unfold newK; rw [List.length_map]; exact hen.1, by rw [new_keys]; exact hen.2.1, fun kv hkv => ?_⟩
  obtain ⟨kv0, h0, rfl⟩ := List.mem_map.mp hkv
  obtain ⟨z, i, e, hi⟩ := hen.2.2 _ h0
  subst e
  refine ⟨z, cnt st i, ?_, ?_⟩
  · show (_, V.int (cnt st ((i : Nat) : Int).toNat : Nat)) = _
    rw [Int.toNat_natCast]
  · have : i ∈ stP kvs := by rw [stP_eq]; exact List.mem_map.mpr ⟨_, h0, by show ((i : Nat) : Int).toNat = i; omega⟩
    obtain ⟨j, hj, hf⟩ := hk.on i (.start this hi)
    have hjn := fl_lt hf
    rw [hk.len] at hjn
    exact cnt_lt hj hjn hf
theorem clo_all {rs : List Ins} {st : List Bool} (hv : Valid rs) (h : ∀ i, i < rs.length → fl st i = true) : clo rs st rs.length = rs := by
  have key : ∀ i, i ≤ rs.length → clo rs st i = rs.take i := by
    intro i
    induction i with
    | zero => intro _; rfl
    | succ i ih =>
      intro hi
      have e : rs[i]? = some rs[i] := List.getElem?_eq_getElem hi
      rw [clo_T e (h i hi), ih (by omega), take_succ_at e]
      congr 2
      unfold mvI
      by_cases p : plB rs[i].w = true
      · obtain ⟨h1, h2⟩ := tgt_lt (hv.2.2 _ (List.getElem_mem hi)) p
        rw [if_pos p, cnt_all h _ (Nat.le_of_lt h1)]
        exact h2.symm
      · rw [if_neg p]
  rw [key _ (Nat.le_refl _), List.take_length]
theorem new_all {kvs : List (Key × V)} {st : List Bool} {n : Nat} (hen : EnOk kvs n) (h : ∀ i, i < n → fl st i = true) : newK st kvs = kvs := by
  unfold newK
  conv => rhs; rw [← List.map_id kvs]
  refine List.map_congr_left fun kv hkv => ?_
  obtain ⟨z, i, e, hi⟩ := hen.2.2 _ hkv
  subst e
  show (_, V.int (cnt st ((i : Nat) : Int).toNat : Nat)) = _
  rw [Int.toNat_natCast, cnt_all h _ (Nat.le_of_lt hi)]
  rfl
theorem valV_at : ∀ {kvs : List (Key × V)} {i : Nat} {k : Key} {v : V}, (kvs.map (·.1)).Nodup → kvs[i]? = some (k, v) → valV kvs k = some v
  | [], i, k, v, _, e => by simp at e
  | (k0, v0) :: kvs, 0, k, v, _, e => by
    simp at e
    obtain ⟨rfl, rfl⟩ := e
    exact valV_pos rfl
  | (k0, v0) :: kvs, i + 1, k, v, h, e => by
    rw [List.map_cons, List.nodup_cons] at h
    have e' : kvs[i]? = some (k, v) := by simpa using e
    rw [valV_neg (by intro q; exact h.1 (by rw [q]; exact List.mem_map.mpr ⟨_, List.mem_of_getElem? e', rfl⟩))]
    exact valV_at h.2 e'
theorem valV_out : ∀ {kvs : List (Key × V)} {k : Key}, k ∉ kvs.map (·.1) → valV kvs k = none
  | [], _, _ => rfl
  | (k0, v0) :: kvs, k, h => by
    rw [List.map_cons, List.mem_cons] at h
    rw [valV_neg (by intro q; exact h (.inl q.symm))]
    exact valV_out fun q => h (.inr q)
theorem nodup_at {ks : List Key} {i : Nat} {k : Key} (h : ks.Nodup) (e : ks[i]? = some k) : k ∉ ks.take i := fun z => by
  have h2 : ks = ks.take i ++ ks.drop i := (List.take_append_drop i ks).symm
  rw [h2, List.nodup_append] at h
  have : k ∈ ks.drop i := by
    rw [List.mem_iff_getElem?]
    exact ⟨0, by rw [List.getElem?_drop]; simpa using e⟩
  exact h.2.2 _ z _ this rfl
section
variable {P : Program} {w : World} {K : PySem.W.Frag} {mg : Str → Option Value} {base : Heap}
abbrev N_closed_up : List Str := ["lines", "starts", "stays", "places", "many", "flag", "result", "at", "name"]
abbrev S_closed_up : Scope := defScope (top 61)
theorem sc_closed_up : FnScope N_closed_up ["lines", "starts", "stays"] (defScope (top 61)) := ⟨rfl, rfl, rfl, by decide +kernel, rfl, by decide +kernel, by decide +kernel⟩
def f_closed (K : PySem.W.Frag) (l s t : V) (H : Hp) (Q : VK) : Prop := ∃ rs sa kvs ta, ∃ st : List Bool, LnAt K H l rs ∧ Valid rs ∧ s = .ref sa ∧ H sa = some (.dK kvs) ∧ EnOk kvs rs.length ∧ t = .ref ta ∧ H ta = some (.lst (st.map V.bl)) ∧ st.length = rs.length ∧
  ∀ T l' d' xs' H', Same H H' → H' T = some (.tup [.ref l', .ref d']) → H l' = none → H d' = none → H' l' = some (.lst xs') → Rows K H' xs' (clo rs st rs.length) → H' d' = some (.dK (newK st kvs)) → Q (.ref T) H'
theorem ok_closed (M : Md w K mg) : Cal P w K mg base 1 "closed_up" ["lines", "starts", "stays"] (s3 (f_closed K)) := by
  obtain ⟨fd, F⟩ := M.fd_closed_up
  refine ⟨⟨_, fd, fn_of_d F sc_closed_up s3_len (fun cdv A outer s H vs Q E hr h => ?_), M.gl_closed_up, F.kp, F.bindsN fun _ _ _ _ _ _ us hl => match us, hl with | [_, _, _], _ => rfl⟩⟩
  have hu := hu_of hr
  have nd := sc_closed_up.nd
  obtain ⟨_, _, _, rfl, rs, sa, kvs, ta, st, ⟨la, xs, rfl, hl, hr2⟩, hv, rfl, hs, hen, rfl, ht, hsl, q⟩ := h
  have hlen := hr2.len
  have hn9 := hv.2.1
  have hbl : (st.map V.bl).length = rs.length := by rw [List.length_map]; exact hsl
  refine ⟨_, (pss_cons (ps_set (i := 3) nd rfl (Or.inr rfl) (pe_lst pa_nil)) (pss_cons (ps_set (i := 4) nd rfl (Or.inl rfl) pe_int) (pss_cons (ps_for PassesOwn.never rfl (pi_list (pv 2)) (pg_name (i := 5) nd rfl (Or.inl rfl)) (pss_cons (ps_expr (pe_bm PySem.F.plainAttrs_list PySem.F.slot_list_append PySem.F.type_list_append mt_append (pv 3) (pa_cons (pv 4) pa_nil))) (pss_one (ps_if (pt_val (pv 5)) (pss_one (ps_aug (i := 4) nd rfl (Or.inl rfl) pe_int ip_add)) pss_nil)))) (pss_cons (ps_set (i := 6) nd rfl (Or.inl rfl) (pe_lst pa_nil)) (pss_cons (ps_for PassesOwn.never rfl (pi_range1 rfl M.fr_range (pa_cons (pe_callB (call_lenK (K := K) rfl) rfl M.fr_len PySem.boot_len (pa_cons (pv 0) pa_nil)) pa_nil)) (pg_name (i := 7) nd rfl (Or.inl rfl)) (pss_one (ps_if (PW.pt (pw_and (pt_val (pe_ix (ix_listK (K := K) rfl) (pv 2) (pv 7) (fun _ _ => rfl))) (pw_and1 (pt_cmpR (op_inK (K := K) rfl) (pe_ix (ix_tupK (K := K) rfl) (pe_ix (ix_listK (K := K) rfl) (pv 0) (pv 7) (fun _ _ => rfl)) pe_int (fun _ _ => rfl)) (pe_globR rfl M.gl_PLACED_shortening) (by first | rfl | exact nomark _))))) (pss_one (ps_expr (pe_bm PySem.F.plainAttrs_list PySem.F.slot_list_append PySem.F.type_list_append mt_append (pv 6) (pa_cons (pe_tup (pa_cons (pe_ix (ix_tupK (K := K) rfl) (pe_ix (ix_listK (K := K) rfl) (pv 0) (pv 7) (fun _ _ => rfl)) pe_int (fun _ _ => rfl)) (pa_cons (pe_ix (ix_listK (K := K) rfl) (pv 3) (pe_ix (ix_tupK (K := K) rfl) (pe_ix (ix_listK (K := K) rfl) (pv 0) (pv 7) (fun _ _ => rfl)) pe_int (fun _ _ => rfl)) (fun _ _ => rfl)) pa_nil))) pa_nil)))) (pss_one (ps_if (pt_val (pe_ix (ix_listK (K := K) rfl) (pv 2) (pv 7) (fun _ _ => rfl))) (pss_one (ps_expr (pe_bm PySem.F.plainAttrs_list PySem.F.slot_list_append PySem.F.type_list_append mt_append (pv 6) (pa_cons (pe_ix (ix_listK (K := K) rfl) (pv 0) (pv 7) (fun _ _ => rfl)) pa_nil)))) pss_nil))))) (pss_one (ps_ret (pe_tup (pa_cons (pv 6) (pa_cons (pe_lock (pe_dc (own := [("name", 8)]) (g := gName 8) (tt := tYes) rfl nd (pi_keys (pv 1)) (blkOk_by (own := [("name", 8)]) (N := N_closed_up) (sc := S_closed_up) (by decide +kernel)) (fun _ _ _ _ _ => (pg_name (i := 8) nd rfl (Or.inl rfl))) (fun _ _ _ _ _ => pts_nil) (fun _ _ _ _ _ => (pv 8)) (fun _ _ _ _ _ => (pe_ix (ix_listK (K := K) rfl) (pv 3) (pe_dget hu (pv 1) (pv 8) (fun _ _ => rfl)) (fun _ _ => rfl))))) pa_nil)))))))))), ?_⟩
  walk_at "rd"
  refine ⟨by decide, fun pb hpb => ?_⟩
  have g1 : Same H (upd H pb (.lst [])) := Same.new hpb
  have hp1 : (upd H pb (.lst [])) pb = some (.lst (nV ((List.range 0).map (cnt st)))) := upd_same
  generalize upd H pb (.lst []) = H1 at g1 hp1 ⊢
  walk_at "rd"
  refine ⟨_, rfl, ta, rfl, ⟨_, SqL.of (g1 _ _ ht)⟩, ?_⟩
  refine for_list (xs := st.map V.bl) (fun i σ H2 => Same H H2 ∧ H2 pb = some (.lst (nV ((List.range i).map (cnt st)))) ∧ ∃ v, σ = [some (.ref la), some (.ref sa), some (.ref ta), some (.ref pb), some (.int (cnt st i : Nat)), v, none, none, none]) ⟨g1, hp1, _, rfl⟩ (fun i σ H2 _ z => SqL.of (z.1 _ _ ht)) ?_ ?_
  · rintro i x σ H2 hx ⟨g2, hp2, v, rfl⟩
    rw [List.getElem?_map] at hx
    obtain ⟨b, hb, rfl⟩ := Option.map_eq_some_iff.mp hx
    have hi : i < st.length := (List.getElem?_eq_some_iff.mp hb).1
    have hfb : fl st i = b := by
      have := fl_at hi
      rw [hb] at this
      exact (Option.some.inj this).symm
    walk_at "rd"
    refine b_appendE hp2 ?_
    walk_at "rd"
    refine b_app hp2 (by unfold nV; rw [List.length_map, List.length_map, List.length_range]; omega) ?_
    have g3 : Same H (upd H2 pb (.lst (nV ((List.range i).map (cnt st)) ++ [.int (cnt st i : Nat)]))) := Same.mut g2 hpb
    have hp3 : (upd H2 pb (.lst (nV ((List.range i).map (cnt st)) ++ [.int (cnt st i : Nat)]))) pb = some (.lst (nV ((List.range (i + 1)).map (cnt st)))) := by
      rw [upd_same, List.range_succ, List.map_append]
      unfold nV
      rw [List.map_append]
      rfl
    generalize upd H2 pb (.lst (nV ((List.range i).map (cnt st)) ++ [.int (cnt st i : Nat)])) = H3 at g3 hp3 ⊢
    walk_at "rd"
    refine a_iteB (fun e1 => ?_) (fun e1 => ?_)
    · walk_at "rd"
      refine ⟨g3, hp3, some (.bl b), ?_⟩
      have : cnt st (i + 1) = cnt st i + 1 := by
        show cnt st i + (if fl st i = true then 1 else 0) = _
        rw [if_pos (hfb.trans e1)]
      rw [this, show ((cnt st i + 1 : Nat) : Int) = (cnt st i : Int) + 1 by omega]
      rfl
    · walk_at "rd"
      refine ⟨g3, hp3, some (.bl b), ?_⟩
      have : cnt st (i + 1) = cnt st i := by
        show cnt st i + (if fl st i = true then 1 else 0) = _
        rw [if_neg (by rw [hfb, e1]; exact Bool.false_ne_true)]
        rfl
      rw [this]
      rfl
  rintro σ H2 ⟨g2, hp2, v, rfl⟩
  rw [hbl] at hp2
  rw [hbl]
  walk_at "rd"
  refine ⟨by decide, fun res hres => ?_⟩
  have hrH := Same.free g2 hres
  have nrp : res ≠ pb := (ne_of_none hp2 hres).symm
  have g3 : Same H (upd H2 res (.lst [])) := Same.more g2 hres
  have hp3 : (upd H2 res (.lst [])) pb = _ := (upd_ne nrp.symm).trans hp2
  have hr3 : (upd H2 res (.lst [])) res = some (.lst []) := upd_same
  generalize upd H2 res (.lst []) = H3 at g3 hp3 hr3 ⊢
  walk_at "rd"
  refine ⟨_, rfl, _, _, rfl, .inl (SqL.of (g3 _ _ hl)), _, rfl, by omega, by omega, ?_⟩
  rw [Int.toNat_natCast, hlen]
  refine for_range (lo := 0) (n := rs.length) (fun i σ H4 => Same H H4 ∧ H4 pb = some (.lst (nV ((List.range rs.length).map (cnt st)))) ∧ ∃ acc v w, H4 res = some (.lst acc) ∧ Rows K H4 acc (clo rs st i) ∧ σ = [some (.ref la), some (.ref sa), some (.ref ta), some (.ref pb), some (.int (cnt st rs.length : Nat)), v, some (.ref res), w, none]) ⟨g3, hp3, [], _, _, hr3, .nil, rfl⟩ ?_ ?_
  · rintro i σ H4 hi ⟨g4, hp4, acc, v, w, hacc, hra, rfl⟩
    have hc : ((0 : Int) + (i : Nat)) = ((i : Nat) : Int) := by omega
    rw [hc]
    obtain ⟨r, hri, hrm, hw, _⟩ := wA_of hi
    obtain ⟨a, hxa, hsa⟩ := hr2.at hri
    have hst : st[i]? = some (fl st i) := fl_at (by rw [hsl]; exact hi)
    have hal : acc.length ≤ 100000 := by
      have := hra.len
      rw [clo_len i (by omega)] at this
      have := cnt_le st i
      omega
    have fin : ∀ H5 v, Same H4 H5 → RowAt K H5 v (mvI st r) → fl st i = true → Same H (upd H5 res (.lst (acc ++ [v]))) ∧ (upd H5 res (.lst (acc ++ [v]))) pb = some (.lst (nV ((List.range rs.length).map (cnt st)))) ∧ (upd H5 res (.lst (acc ++ [v]))) res = some (.lst (acc ++ [v])) ∧
        Rows K (upd H5 res (.lst (acc ++ [v]))) (acc ++ [v]) (clo rs st (i + 1)) := fun H5 v g5 hv5 hf => by
      have stt := SameT.lst (o := .lst (acc ++ [v])) (g5 _ _ hacc)
      refine ⟨Same.mut (g4.trans g5) hrH, by rw [upd_ne nrp.symm]; exact g5 _ _ hp4, upd_same, ?_⟩
      rw [clo_T hri hf]
      exact Paired_app (Rows.tup ((SameT.of g5).trans stt) hra) (.cons (sameT_row stt hv5) .nil)
    walk_at "rd1"
    with_reducible refine a_if ?_
    with_reducible refine t_cut (fun b H' => H' = H4 ∧ b = (fl st i && plB r.w)) ?_ ?_
    · intro R' hR
      walk_at "rd"
      refine a_ixL (SqL.of (g4 _ _ ht)) (bat hst) ?_
      walk_at "rd"
      refine a_iteB (fun e1 => ?_) (fun e1 => ?_)
      · walk_at "rd"
        refine a_ixL (SqL.of (g4 _ _ hl)) (atI_nat hxa) ?_
        walk_at "rd"
        refine a_ixT (Same.seqT g4 hsa) atI0 ?_
        walk_at "rd"
        refine b_inT (M.tp_PLACED_shortening _) rfl (by decide +kernel) (b := plB r.w) rfl ?_
        walk_at "rd"
        exact hR _ _ ⟨rfl, by rw [e1]; rfl⟩
      · walk_at "rd"
        exact hR _ _ ⟨rfl, by rw [e1]; rfl⟩
    rintro b H' ⟨rfl, hb⟩
    refine a_iteB (fun e1 => ?_) (fun e1 => ?_)
    · rw [e1] at hb
      obtain ⟨hf, hpl⟩ := Bool.and_eq_true_iff.mp hb.symm
      obtain ⟨hx, hlt⟩ := pl_x hv hrm hpl
      walk_at "rd"
      refine b_appendE hacc ?_
      walk_at "rd"
      refine a_ixL (SqL.of (g4 _ _ hl)) (atI_nat hxa) ?_
      walk_at "rd"
      refine a_ixT (Same.seqT g4 hsa) atI0 ?_
      walk_at "rd"
      refine a_ixL (SqL.of (g4 _ _ hl)) (atI_nat hxa) ?_
      walk_at "rd"
      refine a_ixT (Same.seqT g4 hsa) (atI1 hx) ?_
      refine a_ixL (SqL.of hp4) (nat_at (p := cnt st (tgt r)) (by rw [List.getElem?_map, List.getElem?_range hlt]; rfl)) ?_
      walk_at "rd"
      refine ⟨sz2, fun p hp => ?_⟩
      walk_at "rd"
      refine b_app ((Same.new hp) _ _ hacc) hal ?_
      have hmv : insV (mvI st r) = [.str r.w, .int (cnt st (tgt r) : Nat)] := by unfold mvI; rw [if_pos hpl]; rfl
      obtain ⟨k1, k2, k3, k4⟩ := fin (upd H' p (.tup [.str r.w, .int (cnt st (tgt r) : Nat)])) (.ref p) (Same.new hp) ⟨p, rfl, by rw [hmv]; exact SqT.of upd_same⟩ hf
      exact ⟨k1, k2, _, _, _, k3, k4, rfl⟩
    · rw [e1] at hb
      walk_at "rd"
      refine a_ixL (SqL.of (g4 _ _ ht)) (bat hst) ?_
      walk_at "rd"
      refine a_iteB (fun e2 => ?_) (fun e2 => ?_)
      · have hpl : plB r.w = false := by rw [e2] at hb; exact hb.symm
        walk_at "rd"
        refine b_appendE hacc ?_
        walk_at "rd"
        refine a_ixL (SqL.of (g4 _ _ hl)) (atI_nat hxa) ?_
        walk_at "rd"
        refine b_app hacc hal ?_
        obtain ⟨k1, k2, k3, k4⟩ := fin _ (.ref a) (Same.refl _) ⟨a, rfl, by unfold mvI; rw [if_neg (by rw [hpl]; exact Bool.false_ne_true)]; exact Same.seqT g4 hsa⟩ e2
        exact ⟨k1, k2, _, _, _, k3, k4, rfl⟩
      · walk_at "rd"
        exact ⟨g4, hp4, acc, _, _, hacc, by rw [clo_F e2]; exact hra, rfl⟩
  rintro σ H4 ⟨g4, hp4, acc, v, w, hacc, hra, rfl⟩
  walk_at "rd"
  refine ⟨sa, _, g4 _ _ hs, trivial, fun od => ?_⟩
  have nps : pb ≠ sa := fun e => by rw [e, hs] at hpb; cases hpb
  have nrs : res ≠ sa := fun e => by rw [e, hs] at hrH; cases hrH
  refine ⟨_, rfl, sa, od, rfl, .inl ⟨kvs, upd_same, fun D hD => dc_it walk_keys (fun i H5 => H5 sa = some (.frz od (.dK kvs)) ∧ (∀ b o, H4 b = some o → b ≠ sa → H5 b = some o) ∧ H5 D = some (.dK ((newK st kvs).take i))) ?_ (fun i H5 _ z => z.1) ?_ ?_⟩⟩
  · have nDs : D ≠ sa := fun e => by rw [e, upd_same] at hD; cases hD
    refine ⟨by rw [upd_ne nDs.symm]; exact upd_same, fun b o hb hne => ?_, upd_same⟩
    have : (upd H4 sa (.frz od (.dK kvs))) b = some o := by rw [upd_ne hne]; exact hb
    rw [upd_ne (ne_of_none this hD)]
    exact this
  · rintro i x H5 H6 hi ⟨hf5, hk5, hd5⟩ ⟨rfl, k, v5, hkv, rfl⟩
    obtain ⟨z, p, e, hp⟩ := hen.2.2 _ (List.mem_of_getElem? hkv)
    obtain ⟨rfl, rfl⟩ := Prod.mk.inj e
    have nDs : D ≠ sa := fun e => by rw [e, upd_same] at hD; cases hD
    have hD4 : H4 D = none := by rw [upd_ne nDs] at hD; exact hD
    walk_at "rd"
    refine ⟨rfl, ?_⟩
    walk_at "rd"
    refine b_dgetSF hf5 (valV_at hen.2.1 hkv) ?_
    refine a_ixL (SqL.of (hk5 _ _ hp4 nps)) (nat_at (p := cnt st p) (by rw [List.getElem?_map, List.getElem?_range hp]; rfl)) ?_
    have hnk : (newK st kvs)[i]? = some ((Sum.inr z : Key), V.int (cnt st p : Nat)) := by
      unfold newK
      rw [List.getElem?_map, hkv]
      show some (_, V.int (cnt st ((p : Nat) : Int).toNat : Nat)) = _
      rw [Int.toNat_natCast]
    refine ⟨_, Sum.inr z, rfl, hd5, ?_, ?_⟩
    · rw [List.length_take]
      have h6 : (newK st kvs).length = kvs.length := by unfold newK; rw [List.length_map]
      have := hen.1
      exact small1000 (by omega)
    refine ⟨by rw [upd_ne nDs.symm]; exact hf5, fun b o hb hne => by rw [upd_ne (ne_of_none hb hD4)]; exact hk5 b o hb hne, ?_⟩
    rw [upd_same, putK_new _ (valV_out (by
      rw [List.map_take, new_keys]
      exact nodup_at hen.2.1 (by rw [List.getElem?_map, hkv]; rfl))), take_succ_at hnk]
  rintro H5 ⟨hf5, hk5, hd5⟩
  rw [List.take_of_length_le (by unfold newK; rw [List.length_map]; exact Nat.le_refl _)] at hd5
  refine ⟨hf5, ?_⟩
  have nDs : D ≠ sa := fun e => by rw [e, upd_same] at hD; cases hD
  have hD4 : H4 D = none := by rw [upd_ne nDs] at hD; exact hD
  have g6 : Same H4 (upd H5 sa (.dK kvs)) := fun b o hb => by
    by_cases c : b = sa
    · subst c
      rw [upd_same]; rw [g4 _ _ hs] at hb; exact hb
    · rw [upd_ne c]
      exact hk5 b o hb c
  have hd6 : (upd H5 sa (.dK kvs)) D = some (.dK (newK st kvs)) := by rw [upd_ne nDs]; exact hd5
  generalize upd H5 sa (.dK kvs) = H6 at g6 hd6 ⊢
  walk_at "rd"
  refine ⟨sz2, fun T hT => ?_⟩
  have g7 := Same.more (o := .tup [.ref res, .ref D]) g6 hT
  exact q T res D acc _ (g4.trans g7) upd_same hrH (Same.free g4 hD4) (g7 _ _ hacc) (Rows.mono g7 hra) ((Same.new hT) _ _ hd6)
end

end T51

set_option Elab.async false
set_option linter.all false
set_option maxRecDepth 100000
set_option maxHeartbeats 4000000
namespace T51
open PySem PySem.Spec PyProof.Rows L2
local macro_rules | `(tactic| walk_at "rd1") => `(tactic| with_reducible first
  | refine a_seq ?_ | refine a_var rfl ?_ | refine a_c ?_ | refine a_op ?_ | refine a_cons ?_ | refine a_nil ?_ | refine a_cb ?_ | refine a_asg ?_ | refine a_gname ?_ | refine a_ret ?_
  | refine a_if ?_ | refine a_test ?_ | refine a_tB ?_ | refine a_blP ?_ | refine a_and ?_ | refine a_or ?_ | refine a_not ?_ | refine a_andV ?_ | refine a_orV ?_ | refine a_notV ?_ | refine a_ifE ?_
  | refine a_rI0 ?_ | refine a_eqS ?_ | refine a_eqI ?_ | refine a_neS ?_ | refine a_neI ?_ | refine a_call ?_ | refine a_tup ?_ | refine a_lst ?_ | refine a_chain ?_ | refine a_iteT ?_ | refine a_iteF ?_ | refine a_iteNT ?_ | refine a_iteNF ?_
  | refine a_drop ?_ | refine a_next ?_ | refine a_cont ?_ | refine a_break ?_ | refine a_retN ?_ | refine a_ipI ?_ | refine a_aug rfl ?_ | refine a_bm ?_ | refine a_bm0 ?_ | refine b_ord ?_ | refine b_int ?_ | refine b_isN ?_ | refine b_notN ?_ | refine a_un ?_ | refine b_rU ?_ | refine a_fld ?_ | refine a_sfld ?_ | refine a_meth ?_ | refine a_make ?_
  | refine a_dget ?_ | refine a_din ?_ | refine a_dnin ?_ | refine a_dput ?_ | refine a_yes ?_ | refine a_gsub ?_)
local macro_rules | `(tactic| walk_at "is") => `(tactic| with_reducible first
  | refine a_isi_int_int ?_ | refine a_isi_int_bool ?_ | refine a_isi_int_str ?_ | refine a_isi_int_list ?_ | refine a_isi_int_tuple ?_ | refine a_isi_int_dict ?_
  | refine a_isi_bl_int ?_ | refine a_isi_bl_bool ?_ | refine a_isi_bl_str ?_ | refine a_isi_bl_list ?_ | refine a_isi_bl_tuple ?_ | refine a_isi_bl_dict ?_
  | refine a_isi_str_int ?_ | refine a_isi_str_bool ?_ | refine a_isi_str_str ?_ | refine a_isi_str_list ?_ | refine a_isi_str_tuple ?_ | refine a_isi_str_dict ?_
  | refine a_isi_non_int ?_ | refine a_isi_non_bool ?_ | refine a_isi_non_str ?_ | refine a_isi_non_list ?_ | refine a_isi_non_tuple ?_ | refine a_isi_non_dict ?_)
local macro_rules | `(tactic| walk_at "rd") => `(tactic| repeat (walk_at "rd1"))
local macro_rules | `(tactic| walk_at "hp") => `(tactic| first
  | with_reducible assumption
  | with_reducible exact upd_same
  | (with_reducible refine SqL.of ?_; walk_at "hp")
  | (with_reducible refine SqT.of ?_; walk_at "hp")
  | (with_reducible refine Eq.trans (upd_ne ?_) ?_; rotate_left; focus (walk_at "hp"); walk_at "ne")
  | (with_reducible refine (by with_reducible assumption : Same _ _) _ _ ?_; walk_at "hp"))
local macro_rules | `(tactic| walk_at "ne") => `(tactic| first
  | with_reducible assumption
  | with_reducible exact Ne.symm (by with_reducible assumption)
  | (with_reducible refine ne_of_none ?_ (by with_reducible assumption); walk_at "hp")
  | (with_reducible refine Ne.symm (ne_of_none ?_ (by with_reducible assumption)); walk_at "hp"))
local macro_rules | `(tactic| walk_at "rc") => `(tactic| with_reducible first
  | refine a_s1 ?_ | refine a_s2 ?_ | refine a_s3 ?_ | refine a_s4 ?_ | refine a_s0 ?_ | refine a_m1 ?_ | refine a_m2 ?_ | refine a_m3 ?_ | refine a_m4 ?_)
local macro_rules | `(tactic| walk_at "rx1") => `(tactic| with_reducible first
  | refine a_var rfl ?_ | refine a_c ?_ | refine a_op ?_ | refine a_cons ?_ | refine a_nil ?_ | refine a_cb ?_ | refine a_asg ?_ | refine a_gname ?_ | refine a_ret ?_
  | refine a_if ?_ | refine a_test ?_ | refine a_tB ?_ | refine a_blP ?_ | refine a_and ?_ | refine a_or ?_ | refine a_not ?_ | refine a_andV ?_ | refine a_orV ?_ | refine a_notV ?_ | refine a_ifE ?_
  | refine a_rI0 ?_ | refine a_eqS ?_ | refine a_eqI ?_ | refine a_neS ?_ | refine a_neI ?_ | refine a_call ?_ | refine a_tup ?_ | refine a_lst ?_ | refine a_chain ?_ | refine a_iteT ?_ | refine a_iteF ?_ | refine a_iteNT ?_ | refine a_iteNF ?_
  | refine a_drop ?_ | refine a_next ?_ | refine a_cont ?_ | refine a_break ?_ | refine a_retN ?_ | refine a_ipI ?_ | refine a_aug rfl ?_ | refine a_bm ?_ | refine a_bm0 ?_ | refine b_ord ?_ | refine b_int ?_ | refine b_isN ?_ | refine b_notN ?_ | refine a_un ?_ | refine b_rU ?_ | refine a_fld ?_ | refine a_sfld ?_ | refine a_meth ?_ | refine a_make ?_
  | refine a_dget ?_ | refine a_din ?_ | refine a_dnin ?_ | refine a_dput ?_ | refine a_yes ?_ | refine a_gsub ?_)
local macro_rules | `(tactic| walk_at "rx") => `(tactic| repeat (walk_at "rx1"))
/-! ### rounds -/
structure Fine (rs : List Ins) (ss : List Nat) : Prop where
  all : ∀ i, i < rs.length → Reach rs ss i
  str : straightF rs = rs
  idle : ∀ i, i < rs.length → IdleA rs ss i
noncomputable def meas (rs : List Ins) : Nat := rs.length * 40000 + wtS rs * 2 + (if straightF rs = rs then 0 else 1)
theorem meas_lt {rs : List Ins} {ss : List Nat} {st : List Bool} (hv : Valid rs) (hk : Kept (straightF rs) ss st) (h : straightF rs ≠ rs ∨ ∃ j, j < rs.length ∧ fl st j = false) : meas (clo (straightF rs) st (straightF rs).length) < meas rs := by
  have hl := clo_len (rs := straightF rs) (st := st) _ (Nat.le_refl _)
  have hsl := straightF_len rs
  have hvs := straight_valid hv
  by_cases c : ∃ j, j < rs.length ∧ fl st j = false
  · obtain ⟨j, h1, h2⟩ := c
    have h3 := cnt_some (n := (straightF rs).length) (by rw [hsl]; exact h1) h2
    have h4 := wtS_le (clo (straightF rs) st (straightF rs).length)
    rw [hl] at h4
    have h5 := hv.2.1
    unfold meas
    rw [hl]
    rw [hsl] at *
    have h6 : (if straightF (clo (straightF rs) st rs.length) = clo (straightF rs) st rs.length then 0 else 1) ≤ 1 := by split <;> omega
    omega
  · have hall : ∀ i, i < (straightF rs).length → fl st i = true := fun i hi => by
      cases e : fl st i with
      | true => rfl
      | false => exact absurd ⟨i, by rw [hsl] at hi; exact hi, e⟩ c
    have hne : straightF rs ≠ rs := h.resolve_right c
    rw [clo_all hvs hall]
    obtain ⟨h1, h2⟩ := wtS_straight hv
    unfold meas
    rw [hsl, if_neg hne]
    by_cases e : wtS (straightF rs) = wtS rs
    · rw [if_pos (straight_twice hv e)]
      omega
    · have h6 : (if straightF (straightF rs) = straightF rs then 0 else 1) ≤ 1 := by split <;> omega
      omega
theorem bools_flat (st : List Bool) : (st.map V.bl).all flatV = true := by
  rw [List.all_eq_true]
  intro v hv
  obtain ⟨b, _, rfl⟩ := List.mem_map.mp hv
  rfl
theorem false_in {st : List Bool} : inV (.bl false) (st.map V.bl) = true ↔ ∃ j, j < st.length ∧ fl st j = false := by
  unfold inV
  rw [List.any_eq_true]
  constructor
  · rintro ⟨v, hv, e⟩
    obtain ⟨b, hb, rfl⟩ := List.mem_map.mp hv
    obtain ⟨j, hj, rfl⟩ := List.mem_iff_getElem.mp hb
    refine ⟨j, hj, ?_⟩
    have h2 := fl_at hj
    rw [List.getElem?_eq_getElem hj] at h2
    rw [← Option.some.inj h2]
    cases h3 : st[j] with
    | false => rfl
    | true => rw [h3] at e; exact absurd e (by decide +kernel)
  · rintro ⟨j, hj, e⟩
    refine ⟨.bl false, List.mem_map.mpr ⟨false, ?_, rfl⟩, by decide +kernel⟩
    rw [List.mem_iff_getElem?]
    exact ⟨j, by rw [fl_at hj, e]⟩
section
variable {P : Program} {w : World} {K : PySem.W.Frag} {mg : Str → Option Value} {base : Heap}
abbrev N_shorter : List Str := ["lines", "starts", "changed", "better", "stays"]
abbrev S_shorter : Scope := defScope (top 62)
theorem sc_shorter : FnScope N_shorter ["lines", "starts"] (defScope (top 62)) := ⟨rfl, rfl, rfl, by decide +kernel, rfl, by decide +kernel, by decide +kernel⟩
def f_shorter (K : PySem.W.Frag) (l s : V) (H : Hp) (Q : VK) : Prop := ∃ rs sa kvs, LnAt K H l rs ∧ Valid rs ∧ s = .ref sa ∧ H sa = some (.dK kvs) ∧ EnOk kvs rs.length ∧ kvs ≠ [] ∧
  ∀ T l' d' xs' rs' kvs' H', Same H H' → H' T = some (.tup [.ref l', .ref d']) → H' l' = some (.lst xs') → Rows K H' xs' rs' → H' d' = some (.dK kvs') → Valid rs' → rs'.length ≤ rs.length → EnOk kvs' rs'.length → kvs'.map (·.1) = kvs.map (·.1) → Fine rs' (stP kvs') → Q (.ref T) H'
theorem ok_shorter (M : Md w K mg) (C_straightened : Cal P w K mg base 3 "straightened" ["lines"] (s1 (f_straightened K))) (C_kept_places : Cal P w K mg base 4 "kept_places" ["lines", "starts"] (s2 (f_kept K)))
    (C_closed_up : Cal P w K mg base 1 "closed_up" ["lines", "starts", "stays"] (s3 (f_closed K))) : Cal P w K mg base 5 "shorter" ["lines", "starts"] (s2 (f_shorter K)) := by
  obtain ⟨fd, F⟩ := M.fd_shorter
  refine ⟨⟨_, fd, fn_of_d F sc_shorter s2_len (fun cdv A outer s H vs Q E hr h => ?_), M.gl_shorter, F.kp, F.bindsN fun _ _ _ _ _ _ us hl => match us, hl with | [_, _], _ => rfl⟩⟩
  have hu := hu_of hr
  have nd := sc_shorter.nd
  obtain ⟨_, _, rfl, rs, sa, kvs, ⟨la, xs, rfl, hl, hr2⟩, hv, rfl, hs, hen, hkn, q⟩ := h
  refine ⟨_, (pss_cons (ps_set (i := 2) nd rfl (Or.inl rfl) pe_bl) (pss_cons (ps_while PassesOwn.never (pt_val (pv 2)) (pss_cons (ps_set (i := 3) nd rfl (Or.inl rfl) (pe_cl C_straightened (hr.mono (by first | decide | omega)) rfl (pa_cons (pv 0) pa_nil))) (pss_cons (ps_set (i := 4) nd rfl (Or.inl rfl) (pe_cl C_kept_places (hr.mono (by first | decide | omega)) rfl (pa_cons (pv 3) (pa_cons (pv 1) pa_nil)))) (pss_cons (ps_set (i := 2) nd rfl (Or.inl rfl) (pe_or (pe_cmpR (op_neDK (K := K) rfl hr.units) (pv 3) (pv 0) (nomark _)) (pe_one (pe_cmpR (op_inK (K := K) rfl) pe_bl (pv 4) (by first | rfl | exact nomark _))))) (pss_one (ps_asg (pe_cl C_closed_up (hr.mono (by first | decide | omega)) rfl (pa_cons (pv 3) (pa_cons (pv 1) (pa_cons (pv 4) pa_nil)))) (pg_tup rfl (pgs_cons (pg_name (i := 0) nd rfl (Or.inl rfl)) (pgs_cons (pg_name (i := 1) nd rfl (Or.inl rfl)) pgs_nil))))))))) (pss_one (ps_ret (pe_tup (pa_cons (pv 0) (pa_cons (pv 1) pa_nil))))))), ?_⟩
  let W : Nat → L2.St → Hp → Prop := fun d σ H' => ∃ (c : Bool) (rs1 : List Ins) (kvs1 : List (Key × V)) (l1 s1 : Addr) (xs1 : List V) (v3 v4 : Option V), σ = [some (.ref l1), some (.ref s1), some (.bl c), v3, v4] ∧ Same H H' ∧ H' l1 = some (.lst xs1) ∧ Rows K H' xs1 rs1 ∧ H' s1 = some (.dK kvs1) ∧
    Valid rs1 ∧ EnOk kvs1 rs1.length ∧ kvs1.map (·.1) = kvs.map (·.1) ∧ rs1.length ≤ rs.length ∧ (c = false → Fine rs1 (stP kvs1)) ∧ d = (if c = true then meas rs1 + 1 else 0)
  walk_at "rd"
  refine ⟨W, ⟨_, true, rs, kvs, la, sa, xs, _, _, rfl, Same.refl _, hl, hr2, hs, hv, hen, rfl, Nat.le_refl _, fun z => (by cases z), rfl⟩, ?_⟩
  rintro d σ H1 ⟨c, rs1, kvs1, l1, s1, xs1, v3, v4, rfl, g1, hl1, hr1, hs1, hv1, hen1, hk1, hle1, hF, rfl⟩
  walk_at "rd"
  refine a_iteB (fun e1 => ?_) (fun e1 => ?_)
  · subst e1
    with_reducible refine ⟨fun σ' H' => ∃ d, d < (if true = true then meas rs1 + 1 else 0) ∧ W d σ' H', fun σ' H' ⟨d, h1, h2⟩ => ⟨d, h1, h2⟩, ?_⟩
    walk_at "rd"; walk_at "rc"
    refine ⟨rs1, ⟨l1, xs1, rfl, hl1, hr1⟩, hv1, fun lb xb H2 g2 nlb hlb hrb => ?_⟩
    have hvb := straight_valid hv1
    have hlen := straightF_len rs1
    have henb : EnOk kvs1 (straightF rs1).length := by rw [hlen]; exact hen1
    walk_at "rd"; walk_at "rc"
    refine ⟨straightF rs1, s1, kvs1, ⟨lb, xb, rfl, hlb, hrb⟩, hvb, rfl, g2 _ _ hs1, henb, fun ta st H3 g3 nta hta hK => ?_⟩
    have g23 := g2.trans g3
    have hsl : st.length = rs1.length := by rw [← hlen]; exact hK.len
    walk_at "rx"
    with_reducible refine s_cut (fun σ' H' => H' = H3 ∧ ∃ c : Bool, σ' = [some (.ref l1), some (.ref s1), some (.bl c), some (.ref lb), some (.ref ta)] ∧ (c = true ↔ (straightF rs1 ≠ rs1 ∨ ∃ j, j < rs1.length ∧ fl st j = false))) ?_ ?_
    · intro nx' hnx
      walk_at "rd"
      refine ⟨.list ((straightF rs1).map insD), .list (rs1.map insD), .lst (SqL.of (g3 _ _ hlb)) (Dp_rows hvb.good (Rows.mono g3 hrb)), .lst (SqL.of (g23 _ _ hl1)) (Dp_rows hv1.good (Rows.mono g23 hr1)), list_shaped hvb.good, list_shaped hv1.good, ?_⟩
      rw [show PyData.eqv (.list ((straightF rs1).map insD)) (.list (rs1.map insD)) = decide (straightF rs1 = rs1) by simp only [PyData.eqv, eqv_rows hvb.good hv1.good]]
      walk_at "rd"
      by_cases e : straightF rs1 = rs1
      · rw [decide_eq_true e]
        walk_at "rd"
        refine b_inL (SqL.of hta) rfl (bools_flat st) rfl ?_
        walk_at "rd"
        refine hnx _ _ ⟨rfl, _, rfl, ?_⟩
        rw [false_in, hsl]
        exact ⟨.inr, fun z => z.resolve_left fun y => y e⟩
      · rw [decide_eq_false e]
        walk_at "rd"
        exact hnx _ _ ⟨rfl, _, rfl, fun _ => .inl e, fun _ => rfl⟩
    rintro σ3 H3' ⟨rfl, c, rfl, hc⟩
    walk_at "rd"; walk_at "rc"
    refine ⟨straightF rs1, s1, kvs1, ta, st, ⟨lb, xb, rfl, g3 _ _ hlb, Rows.mono g3 hrb⟩, hvb, rfl, g23 _ _ hs1, henb, rfl, hta, hK.len, fun T l' d' xs' H4 g4 hT _ _ hl' hr' hd' => ?_⟩
    refine ⟨T, _, rfl, SqT.of hT, rfl, _, _, rfl, _, _, rfl, rfl, ?_⟩
    have hcl := clo_len (rs := straightF rs1) (st := st) _ (Nat.le_refl _)
    have hen2 : EnOk (newK st kvs1) (cnt st (straightF rs1).length) := new_ok henb hK
    have hne1 : kvs1 ≠ [] := fun z => hkn (by rw [z] at hk1; exact List.map_eq_nil_iff.mp hk1.symm)
    have h1 : 1 ≤ cnt st (straightF rs1).length := by
      obtain ⟨kv, ks, e⟩ := List.exists_cons_of_ne_nil hne1
      have hm : (kv.1, V.int (cnt st (pOf kv.2) : Nat)) ∈ newK st kvs1 := List.mem_map.mpr ⟨kv, by rw [e]; exact List.mem_cons_self .., rfl⟩
      obtain ⟨_, i, _, hi⟩ := hen2.2.2 _ hm
      omega
    refine ⟨if c = true then meas (clo (straightF rs1) st (straightF rs1).length) + 1 else 0, ?_, c, _, _, l', d', xs', _, _, rfl, (g1.trans g23).trans g4, hl', hr', hd', clo_valid hvb hK h1, by rw [hcl]; exact hen2, (new_keys st kvs1).trans hk1, ?_, fun e => ?_, rfl⟩
    · rw [if_pos rfl]
      cases c with
      | true =>
        rw [if_pos rfl]
        have := meas_lt hv1 hK (hc.mp rfl)
        omega
      | false => rw [if_neg Bool.false_ne_true]; omega
    · rw [hcl]
      have := cnt_le st (straightF rs1).length
      omega
    · have hno : ¬ (straightF rs1 ≠ rs1 ∨ ∃ j, j < rs1.length ∧ fl st j = false) := fun z => by
        have := hc.mpr z
        rw [e] at this; cases this
      have hst : straightF rs1 = rs1 := Classical.byContradiction fun z => hno (.inl z)
      have hall : ∀ i, i < (straightF rs1).length → fl st i = true := fun i hi => by
        cases e : fl st i with
        | true => rfl
        | false => exact absurd (.inr ⟨i, by rw [hlen] at hi; exact hi, e⟩) hno
      rw [clo_all hvb hall, new_all henb hall, hst]
      rw [hst] at hK hall
      exact ⟨fun i hi => hK.sound i (hall i hi), hst, hK.tidy hall⟩
  · walk_at "rd"
    refine ⟨sz2, fun T hT => ?_⟩
    have gT := Same.new (o := .tup [.ref l1, .ref s1]) hT
    exact q T l1 s1 xs1 rs1 kvs1 _ (g1.trans gT) upd_same (gT _ _ hl1) (Rows.mono gT hr1) (gT _ _ hs1) hv1 hle1 hen1 hk1 (hF e1)
end

end T51

set_option Elab.async false
set_option linter.all false
set_option maxRecDepth 100000
set_option maxHeartbeats 4000000
namespace T51
open PySem PySem.Spec PyProof.Rows L2
local macro_rules | `(tactic| walk_at "rd1") => `(tactic| with_reducible first
  | refine a_seq ?_ | refine a_var rfl ?_ | refine a_c ?_ | refine a_op ?_ | refine a_cons ?_ | refine a_nil ?_ | refine a_cb ?_ | refine a_asg ?_ | refine a_gname ?_ | refine a_ret ?_
  | refine a_if ?_ | refine a_test ?_ | refine a_tB ?_ | refine a_blP ?_ | refine a_and ?_ | refine a_or ?_ | refine a_not ?_ | refine a_andV ?_ | refine a_orV ?_ | refine a_notV ?_ | refine a_ifE ?_
  | refine a_rI0 ?_ | refine a_eqS ?_ | refine a_eqI ?_ | refine a_neS ?_ | refine a_neI ?_ | refine a_call ?_ | refine a_tup ?_ | refine a_lst ?_ | refine a_chain ?_ | refine a_iteT ?_ | refine a_iteF ?_ | refine a_iteNT ?_ | refine a_iteNF ?_
  | refine a_drop ?_ | refine a_next ?_ | refine a_cont ?_ | refine a_break ?_ | refine a_retN ?_ | refine a_ipI ?_ | refine a_aug rfl ?_ | refine a_bm ?_ | refine a_bm0 ?_ | refine b_ord ?_ | refine b_int ?_ | refine b_isN ?_ | refine b_notN ?_ | refine a_un ?_ | refine b_rU ?_ | refine a_fld ?_ | refine a_sfld ?_ | refine a_meth ?_ | refine a_make ?_
  | refine a_dget ?_ | refine a_din ?_ | refine a_dnin ?_ | refine a_dput ?_ | refine a_yes ?_ | refine a_gsub ?_)
local macro_rules | `(tactic| walk_at "is") => `(tactic| with_reducible first
  | refine a_isi_int_int ?_ | refine a_isi_int_bool ?_ | refine a_isi_int_str ?_ | refine a_isi_int_list ?_ | refine a_isi_int_tuple ?_ | refine a_isi_int_dict ?_
  | refine a_isi_bl_int ?_ | refine a_isi_bl_bool ?_ | refine a_isi_bl_str ?_ | refine a_isi_bl_list ?_ | refine a_isi_bl_tuple ?_ | refine a_isi_bl_dict ?_
  | refine a_isi_str_int ?_ | refine a_isi_str_bool ?_ | refine a_isi_str_str ?_ | refine a_isi_str_list ?_ | refine a_isi_str_tuple ?_ | refine a_isi_str_dict ?_
  | refine a_isi_non_int ?_ | refine a_isi_non_bool ?_ | refine a_isi_non_str ?_ | refine a_isi_non_list ?_ | refine a_isi_non_tuple ?_ | refine a_isi_non_dict ?_)
local macro_rules | `(tactic| walk_at "rd") => `(tactic| repeat (walk_at "rd1"))
local macro_rules | `(tactic| walk_at "hp") => `(tactic| first
  | with_reducible assumption
  | with_reducible exact upd_same
  | (with_reducible refine SqL.of ?_; walk_at "hp")
  | (with_reducible refine SqT.of ?_; walk_at "hp")
  | (with_reducible refine Eq.trans (upd_ne ?_) ?_; rotate_left; focus (walk_at "hp"); walk_at "ne")
  | (with_reducible refine (by with_reducible assumption : Same _ _) _ _ ?_; walk_at "hp"))
local macro_rules | `(tactic| walk_at "ne") => `(tactic| first
  | with_reducible assumption
  | with_reducible exact Ne.symm (by with_reducible assumption)
  | (with_reducible refine ne_of_none ?_ (by with_reducible assumption); walk_at "hp")
  | (with_reducible refine Ne.symm (ne_of_none ?_ (by with_reducible assumption)); walk_at "hp"))
local macro_rules | `(tactic| walk_at "rc") => `(tactic| with_reducible first
  | refine a_s1 ?_ | refine a_s2 ?_ | refine a_s3 ?_ | refine a_s4 ?_ | refine a_s0 ?_ | refine a_m1 ?_ | refine a_m2 ?_ | refine a_m3 ?_ | refine a_m4 ?_)
local macro_rules | `(tactic| walk_at "rx1") => `(tactic| with_reducible first
  | refine a_var rfl ?_ | refine a_c ?_ | refine a_op ?_ | refine a_cons ?_ | refine a_nil ?_ | refine a_cb ?_ | refine a_asg ?_ | refine a_gname ?_ | refine a_ret ?_
  | refine a_if ?_ | refine a_test ?_ | refine a_tB ?_ | refine a_blP ?_ | refine a_and ?_ | refine a_or ?_ | refine a_not ?_ | refine a_andV ?_ | refine a_orV ?_ | refine a_notV ?_ | refine a_ifE ?_
  | refine a_rI0 ?_ | refine a_eqS ?_ | refine a_eqI ?_ | refine a_neS ?_ | refine a_neI ?_ | refine a_call ?_ | refine a_tup ?_ | refine a_lst ?_ | refine a_chain ?_ | refine a_iteT ?_ | refine a_iteF ?_ | refine a_iteNT ?_ | refine a_iteNF ?_
  | refine a_drop ?_ | refine a_next ?_ | refine a_cont ?_ | refine a_break ?_ | refine a_retN ?_ | refine a_ipI ?_ | refine a_aug rfl ?_ | refine a_bm ?_ | refine a_bm0 ?_ | refine b_ord ?_ | refine b_int ?_ | refine b_isN ?_ | refine b_notN ?_ | refine a_un ?_ | refine b_rU ?_ | refine a_fld ?_ | refine a_sfld ?_ | refine a_meth ?_ | refine a_make ?_
  | refine a_dget ?_ | refine a_din ?_ | refine a_dnin ?_ | refine a_dput ?_ | refine a_yes ?_ | refine a_gsub ?_)
local macro_rules | `(tactic| walk_at "rx") => `(tactic| repeat (walk_at "rx1"))
section
variable {P : Program} {w : World} {K : PySem.W.Frag} {mg : Str → Option Value} {base : Heap}
theorem a_dclist {K : PySem.W.Frag} {td : TE} {g : TG} {tt : TT} {tk tv : TE} {vs : List Nat} {σ : L2.St} {H : Hp} {Q : VK} (h : td σ H fun x H1 => ∃ a, x = .ref a ∧ (∃ xs, SqL K H1 a xs) ∧ tDc (fun _ H R => R (Itl K a) H) g tt tk tv vs σ H1 Q) : tDc (iList K td) g tt tk tv vs σ H Q := h
/-! ### a code made shorter -/
def keysOf (kvs : List (Key × V)) (zs : List Str) : Prop := kvs.map (·.1) = zs.map fun z => (Sum.inr z : Key)
theorem keys_at {kvs : List (Key × V)} {zs : List Str} (h : keysOf kvs zs) {i : Nat} {z : Str} (e : zs[i]? = some z) : ∃ v, kvs[i]? = some ((Sum.inr z : Key), v) := by
  have h2 : (kvs.map (·.1))[i]? = some (Sum.inr z : Key) := by
    rw [show kvs.map (·.1) = zs.map fun z => (Sum.inr z : Key) from h, List.getElem?_map, e]
    rfl
  rw [List.getElem?_map] at h2
  obtain ⟨kv, h3, h4⟩ := Option.map_eq_some_iff.mp h2
  obtain ⟨k, v⟩ := kv
  have h4' : k = Sum.inr z := h4
  subst h4'
  exact ⟨v, h3⟩
theorem keys_len {kvs : List (Key × V)} {zs : List Str} (h : keysOf kvs zs) : kvs.length = zs.length := by
  have := congrArg List.length h
  rw [List.length_map, List.length_map] at this
  exact this
theorem good_of {kvs : List (Key × V)} {zs : List Str} {n : Nat} (hk : keysOf kvs zs) (h : EnOk kvs n) : goodEnt kvs zs n := by
  refine ⟨keys_len hk, fun z hz => ?_⟩
  obtain ⟨i, e⟩ := List.mem_iff_getElem?.mp hz
  obtain ⟨v, e2⟩ := keys_at hk e
  obtain ⟨z2, j, e3, hj⟩ := h.2.2 _ (List.mem_of_getElem? e2)
  obtain ⟨e4, e5⟩ := Prod.mk.inj e3
  exact ⟨j, by rw [valV_at h.2.1 e2, e5], by omega, by omega⟩
theorem entK_self {kvs : List (Key × V)} {zs : List Str} {n : Nat} (hk : keysOf kvs zs) (h : EnOk kvs n) : entK kvs zs = kvs := by
  apply List.ext_getElem?
  intro i
  unfold entK
  rw [List.getElem?_map]
  by_cases hi : i < zs.length
  · have e := List.getElem?_eq_getElem hi
    obtain ⟨v, e2⟩ := keys_at hk e
    rw [e, e2]
    show some ((Sum.inr zs[i] : Key), (valV kvs (Sum.inr zs[i])).getD V.non) = _
    rw [valV_at h.2.1 e2]
    rfl
  · rw [List.getElem?_eq_none (by omega), List.getElem?_eq_none (by rw [keys_len hk]; omega)]
    rfl
abbrev N_shortened : List Str := ["code", "program", "entries", "name", "lines", "starts"]
abbrev S_shortened : Scope := defScope (top 64)
theorem sc_shortened : FnScope N_shortened ["code"] (defScope (top 64)) := ⟨rfl, rfl, rfl, by decide +kernel, rfl, by decide +kernel, by decide +kernel⟩
def f_shortened (K : PySem.W.Frag) (x : V) (H : Hp) (Q : VK) : Prop := ∃ p pg ps kvs rs, x = .ref p ∧ CdAt K H p pg kvs rs ∧ PgAt K H pg ps ∧ ps.length ≤ 6 ∧ (ps.map (·.nm)).Nodup ∧ keysOf kvs (ps.map (·.nm)) ∧ Valid rs ∧ EnOk kvs rs.length ∧ kvs ≠ [] ∧
  ∀ p' kvs' rs' H', Same H H' → CdAt K H' p' pg kvs' rs' → Valid rs' → rs'.length ≤ rs.length → EnOk kvs' rs'.length → keysOf kvs' (ps.map (·.nm)) → Fine rs' (stP kvs') → Q (.ref p') H'
theorem ok_shortened (M : Md w K mg) (C_shorter : Cal P w K mg base 5 "shorter" ["lines", "starts"] (s2 (f_shorter K))) (C_Program_names : CalM P w K mg base 1 (He.ga K "Program") "names" ["self"] (s1 (f_names K))) (C_Code_program : CalM P w K mg base 1 (He.ga K "Code") "program" ["self"] (s1 (f_code_program K)))
    (C_Code_entry : CalM P w K mg base 1 (He.ga K "Code") "entry" ["self", "name"] (s2 (f_code_entry K))) (C_Code_rows : CalM P w K mg base 1 (He.ga K "Code") "rows" ["self"] (s1 (f_code_rows K))) (C_Code : CalI P w K mg base 6 "Code" (He.ga K "Code") ["self", "program", "entries", "rows"] (s4 (f_code_init K))) :
    CalK P w K mg base 9 "shortened" "code" (s1 (f_shortened K)) := by
  obtain ⟨fd, F⟩ := M.fd_shortened
  refine ⟨⟨_, fd, fn_of_d F sc_shortened s1_len (fun cdv A outer s H vs Q E hr h => ?_), M.gl_shortened, F.kp, fun s u _ => bindsK1 F (fun _ _ _ _ _ _ _ => rfl) s u⟩⟩
  have hu := hu_of hr
  have nd := sc_shortened.nd
  obtain ⟨_, rfl, p, pg, ps, kvs, rs, rfl, hcd, hpg, hps, hnd, hks, hv, hen, hkn, q⟩ := h
  obtain ⟨dx, sa, la, xs, hp, hs, hl, hrw⟩ := id hcd
  obtain ⟨pdx, ppa, pxs, hpo, _⟩ := id hpg
  have lk3 : ∀ m : Str, ((m == "owner") = false) → ((m == "starts") = false) → ((m == "lines") = false) → List.lookup m [(("owner" : Str), V.ref pg), ("starts", .ref sa), ("lines", .ref la)] = none := fun m h1 h2 h3 => (lk_ne h1).trans ((lk_ne h2).trans ((lk_ne h3).trans lk_none))
  refine ⟨_, (pss_cons (ps_set (i := 1) nd rfl (Or.inl rfl) (pe_me0 C_Code_program (pv 0) (hr.mono (by first | decide | omega)) rfl)) (pss_cons (ps_setDc (i := 2) (own := [("name", 3)]) (g := gName 3) (tt := tYes) rfl nd rfl rfl (sw_trueD rfl rfl rfl (by decide +kernel)) (pi_list (pe_me0 C_Program_names (pv 1) (hr.mono (by first | decide | omega)) rfl)) (blkOk_by (own := [("name", 3)]) (N := N_shortened) (sc := S_shortened) (by decide +kernel)) (fun _ _ _ _ _ => (pg_name (i := 3) nd rfl (Or.inl rfl))) (fun _ _ _ _ _ => pts_nil) (fun _ _ _ _ _ => (pv 3)) (fun _ _ _ _ _ => (pe_me C_Code_entry (pv 0) (hr.mono (by first | decide | omega)) (pa_cons (pv 3) pa_nil) rfl rfl))) (pss_cons (ps_asg (pe_cl C_shorter (hr.mono (by first | decide | omega)) rfl (pa_cons (pe_me0 C_Code_rows (pv 0) (hr.mono (by first | decide | omega)) rfl) (pa_cons (pv 2) pa_nil))) (pg_tup rfl (pgs_cons (pg_name (i := 4) nd rfl (Or.inl rfl)) (pgs_cons (pg_name (i := 5) nd rfl (Or.inl rfl)) pgs_nil)))) (pss_one (ps_ret (pe_mkc C_Code (hr.mono (by first | decide | omega)) rfl (pa_cons (pv 1) (pa_cons (pv 5) (pa_cons (pv 4) pa_nil))))))))), ?_⟩
  walk_at "rd"
  refine b_meth hp (lk3 _ (by decide +kernel) (by decide +kernel) (by decide +kernel)) ?_
  walk_at "rd"; walk_at "rc"
  refine ⟨p, pg, kvs, rs, rfl, hcd, ?_⟩
  walk_at "rd"
  refine a_dclist ?_
  walk_at "rd"
  refine b_meth hpo ((lk_ne (by decide +kernel)).trans lk_none) ?_
  walk_at "rd"; walk_at "rc"
  refine ⟨pg, ps, rfl, hpg, by omega, fun l H1 g1 nl hl1 => ?_⟩
  refine ⟨l, rfl, ⟨_, SqL.of hl1⟩, ?_⟩
  generalize hzs : ps.map (·.nm) = zs at *
  have hzl : zs.length ≤ 6 := by rw [← hzs, List.length_map]; exact hps
  refine fun D hD => dc_it (walk_list (xs := List.map V.str zs)) (fun i H5 => Same H1 H5 ∧ H5 D = some (.dK (kvs.take i))) ⟨Same.new hD, upd_same⟩ (fun i H5 _ z => SqL.of (z.1 _ _ hl1)) ?_ ?_
  · rintro i x H5 _ _ ⟨g5, hd5⟩ ⟨rfl, hx⟩
    rw [List.getElem?_map] at hx
    obtain ⟨z, hz, rfl⟩ := Option.map_eq_some_iff.mp hx
    obtain ⟨v, hkv⟩ := keys_at hks hz
    walk_at "rd"
    refine ⟨rfl, ?_⟩
    walk_at "rd"
    refine b_meth (g5 _ _ (g1 _ _ hp)) (lk3 _ (by decide +kernel) (by decide +kernel) (by decide +kernel)) ?_
    walk_at "rd"; walk_at "rc"
    refine ⟨p, pg, kvs, rs, z, v, rfl, CdAt.mono (g1.trans g5) hcd, rfl, valV_at hen.2.1 hkv, ?_⟩
    refine ⟨_, Sum.inr z, rfl, hd5, ?_, Same.mut g5 hD, ?_⟩
    · rw [List.length_take]
      have := keys_len hks
      exact small1000 (by omega)
    · rw [upd_same, putK_new _ (valV_out (by
        rw [List.map_take]
        exact nodup_at hen.2.1 (by rw [List.getElem?_map, hkv]; rfl))), take_succ_at hkv]
  rintro H5 ⟨g5, hd5⟩
  rw [List.take_of_length_le (by rw [List.length_map, keys_len hks]; exact Nat.le_refl _)] at hd5
  have g15 := g1.trans g5
  walk_at "rd"
  refine b_meth (g15 _ _ hp) (lk3 _ (by decide +kernel) (by decide +kernel) (by decide +kernel)) ?_
  walk_at "rd"; walk_at "rc"
  refine ⟨p, pg, kvs, rs, rfl, CdAt.mono g15 hcd, fun l6 xs6 H6 g6 nl6 hl6 hr6 => ?_⟩
  walk_at "rd"; walk_at "rc"
  refine ⟨rs, D, kvs, ⟨l6, xs6, rfl, hl6, hr6⟩, hv, rfl, g6 _ _ hd5, hen, hkn, fun T l' d' xs' rs' kvs' H7 g7 hT hl' hr' hd' hv' hle hen' hk' hF => ?_⟩
  refine ⟨T, _, rfl, SqT.of hT, rfl, _, _, rfl, _, _, rfl, rfl, ?_⟩
  walk_at "rd"
  have hks' : keysOf kvs' zs := hk'.trans hks
  have g07 := (g15.trans g6).trans g7
  refine fun y dy hy hdy hne => ?_
  walk_at "rc"
  have hy2 : (upd H7 dy (.own y)) y = none := by rw [upd_ne (Ne.symm hne)]; exact hy
  have g8 : Same H7 (upd (upd H7 dy (.own y)) y (.ins (He.ga K "Code") dy [])) := Same.more (Same.new hdy) hy2
  refine ⟨y, dy, pg, ps, d', kvs', l', xs', rs', rfl, upd_same, rfl, PgAt.mono (g07.trans g8) hpg, by omega, by rw [hzs]; exact hnd, rfl, g8 _ _ hd', by rw [hzs]; exact good_of hks' hen', rfl, g8 _ _ hl', Rows.mono g8 hr', hv'.1, hv'.2.1, hv'.2.2, fun H9 b9 hc9 => ⟨rfl, ?_⟩⟩
  rw [hzs, entK_self hks' hen'] at hc9
  exact q y kvs' rs' H9 (g07.trans (But.same g8 hy b9)) hc9 hv' hle hen' hks' hF
end

end T51

set_option Elab.async false
set_option linter.all false
set_option maxRecDepth 100000
set_option maxHeartbeats 4000000
namespace T51
open PySem PySem.Spec PyProof.Rows L2
local macro_rules | `(tactic| walk_at "rd1") => `(tactic| with_reducible first
  | refine a_seq ?_ | refine a_var rfl ?_ | refine a_c ?_ | refine a_op ?_ | refine a_cons ?_ | refine a_nil ?_ | refine a_cb ?_ | refine a_asg ?_ | refine a_gname ?_ | refine a_ret ?_
  | refine a_if ?_ | refine a_test ?_ | refine a_tB ?_ | refine a_blP ?_ | refine a_and ?_ | refine a_or ?_ | refine a_not ?_ | refine a_andV ?_ | refine a_orV ?_ | refine a_notV ?_ | refine a_ifE ?_
  | refine a_rI0 ?_ | refine a_eqS ?_ | refine a_eqI ?_ | refine a_neS ?_ | refine a_neI ?_ | refine a_call ?_ | refine a_tup ?_ | refine a_lst ?_ | refine a_chain ?_ | refine a_iteT ?_ | refine a_iteF ?_ | refine a_iteNT ?_ | refine a_iteNF ?_
  | refine a_drop ?_ | refine a_next ?_ | refine a_cont ?_ | refine a_break ?_ | refine a_retN ?_ | refine a_ipI ?_ | refine a_aug rfl ?_ | refine a_bm ?_ | refine a_bm0 ?_ | refine b_ord ?_ | refine b_int ?_ | refine b_isN ?_ | refine b_notN ?_ | refine a_un ?_ | refine b_rU ?_ | refine a_fld ?_ | refine a_sfld ?_ | refine a_meth ?_ | refine a_make ?_
  | refine a_dget ?_ | refine a_din ?_ | refine a_dnin ?_ | refine a_dput ?_ | refine a_yes ?_ | refine a_gsub ?_)
local macro_rules | `(tactic| walk_at "is") => `(tactic| with_reducible first
  | refine a_isi_int_int ?_ | refine a_isi_int_bool ?_ | refine a_isi_int_str ?_ | refine a_isi_int_list ?_ | refine a_isi_int_tuple ?_ | refine a_isi_int_dict ?_
  | refine a_isi_bl_int ?_ | refine a_isi_bl_bool ?_ | refine a_isi_bl_str ?_ | refine a_isi_bl_list ?_ | refine a_isi_bl_tuple ?_ | refine a_isi_bl_dict ?_
  | refine a_isi_str_int ?_ | refine a_isi_str_bool ?_ | refine a_isi_str_str ?_ | refine a_isi_str_list ?_ | refine a_isi_str_tuple ?_ | refine a_isi_str_dict ?_
  | refine a_isi_non_int ?_ | refine a_isi_non_bool ?_ | refine a_isi_non_str ?_ | refine a_isi_non_list ?_ | refine a_isi_non_tuple ?_ | refine a_isi_non_dict ?_)
local macro_rules | `(tactic| walk_at "rd") => `(tactic| repeat (walk_at "rd1"))
local macro_rules | `(tactic| walk_at "hp") => `(tactic| first
  | with_reducible assumption
  | with_reducible exact upd_same
  | (with_reducible refine SqL.of ?_; walk_at "hp")
  | (with_reducible refine SqT.of ?_; walk_at "hp")
  | (with_reducible refine Eq.trans (upd_ne ?_) ?_; rotate_left; focus (walk_at "hp"); walk_at "ne")
  | (with_reducible refine (by with_reducible assumption : Same _ _) _ _ ?_; walk_at "hp"))
local macro_rules | `(tactic| walk_at "ne") => `(tactic| first
  | with_reducible assumption
  | with_reducible exact Ne.symm (by with_reducible assumption)
  | (with_reducible refine ne_of_none ?_ (by with_reducible assumption); walk_at "hp")
  | (with_reducible refine Ne.symm (ne_of_none ?_ (by with_reducible assumption)); walk_at "hp"))
local macro_rules | `(tactic| walk_at "rc") => `(tactic| with_reducible first
  | refine a_s1 ?_ | refine a_s2 ?_ | refine a_s3 ?_ | refine a_s4 ?_ | refine a_s0 ?_ | refine a_m1 ?_ | refine a_m2 ?_ | refine a_m3 ?_ | refine a_m4 ?_)
local macro_rules | `(tactic| walk_at "rx1") => `(tactic| with_reducible first
  | refine a_var rfl ?_ | refine a_c ?_ | refine a_op ?_ | refine a_cons ?_ | refine a_nil ?_ | refine a_cb ?_ | refine a_asg ?_ | refine a_gname ?_ | refine a_ret ?_
  | refine a_if ?_ | refine a_test ?_ | refine a_tB ?_ | refine a_blP ?_ | refine a_and ?_ | refine a_or ?_ | refine a_not ?_ | refine a_andV ?_ | refine a_orV ?_ | refine a_notV ?_ | refine a_ifE ?_
  | refine a_rI0 ?_ | refine a_eqS ?_ | refine a_eqI ?_ | refine a_neS ?_ | refine a_neI ?_ | refine a_call ?_ | refine a_tup ?_ | refine a_lst ?_ | refine a_chain ?_ | refine a_iteT ?_ | refine a_iteF ?_ | refine a_iteNT ?_ | refine a_iteNF ?_
  | refine a_drop ?_ | refine a_next ?_ | refine a_cont ?_ | refine a_break ?_ | refine a_retN ?_ | refine a_ipI ?_ | refine a_aug rfl ?_ | refine a_bm ?_ | refine a_bm0 ?_ | refine b_ord ?_ | refine b_int ?_ | refine b_isN ?_ | refine b_notN ?_ | refine a_un ?_ | refine b_rU ?_ | refine a_fld ?_ | refine a_sfld ?_ | refine a_meth ?_ | refine a_make ?_
  | refine a_dget ?_ | refine a_din ?_ | refine a_dnin ?_ | refine a_dput ?_ | refine a_yes ?_ | refine a_gsub ?_)
local macro_rules | `(tactic| walk_at "rx") => `(tactic| repeat (walk_at "rx1"))
section
variable {P : Program} {w : World} {K : PySem.W.Frag} {mg : Str → Option Value} {base : Heap}
theorem a_lclist {K : PySem.W.Frag} {td : TE} {g : TG} {tt : TT} {te : TE} {vs : List Nat} {σ : L2.St} {H : Hp} {Q : VK} (h : td σ H fun x H1 => ∃ a, x = .ref a ∧ (∃ xs, SqL K H1 a xs) ∧ tLc (fun _ H R => R (Itl K a) H) g tt te vs σ H1 Q) : tLc (iList K td) g tt te vs σ H Q := h
/-! ### the source of draws -/
def srcK (ca : Addr) (l s d : Int) : List (Key × V) := [(Sum.inr "cells", .ref ca), (Sum.inr "left", .int l), (Sum.inr "seed", .int s), (Sum.inr "drawn", .int d)]
def SrcAt (H : Hp) (sa ca : Addr) : Prop := ∃ (ns : List Int) (l s d : Int), H sa = some (.dK (srcK ca l s d)) ∧ H ca = some (.lst (ns.map V.int)) ∧ ns.length ≤ 63
theorem src_cells {ca : Addr} {l s d : Int} : valV (srcK ca l s d) (Sum.inr "cells" : Key) = some (.ref ca) := rfl
theorem src_left {ca : Addr} {l s d : Int} : valV (srcK ca l s d) (Sum.inr "left" : Key) = some (.int l) := rfl
theorem src_seed {ca : Addr} {l s d : Int} : valV (srcK ca l s d) (Sum.inr "seed" : Key) = some (.int s) := rfl
theorem src_drawn {ca : Addr} {l s d : Int} : valV (srcK ca l s d) (Sum.inr "drawn" : Key) = some (.int d) := rfl
theorem src_pleft {ca : Addr} {l s d l' : Int} : putK (srcK ca l s d) (Sum.inr "left" : Key) (.int l') = srcK ca l' s d := rfl
theorem src_pseed {ca : Addr} {l s d s' : Int} : putK (srcK ca l s d) (Sum.inr "seed" : Key) (.int s') = srcK ca l s' d := rfl
theorem src_pdrawn {ca : Addr} {l s d d' : Int} : putK (srcK ca l s d) (Sum.inr "drawn" : Key) (.int d') = srcK ca l s d' := rfl
/-- all but the source is as it was -/
structure Drw (sa ca : Addr) (H H' : Hp) : Prop where
  keep : ∀ b o, H b = some o → b ≠ sa → b ≠ ca → H' b = some o
  src : SrcAt H' sa ca
theorem Drw.refl {sa ca : Addr} {H : Hp} (h : SrcAt H sa ca) : Drw sa ca H H := ⟨fun _ _ h _ _ => h, h⟩
theorem Drw.trans {sa ca : Addr} {H H1 H2 : Hp} (a : Drw sa ca H H1) (b : Drw sa ca H1 H2) : Drw sa ca H H2 := ⟨fun c o h n m => b.keep c o (a.keep c o h n m) n m, b.src⟩
theorem SrcAt.mono {sa ca : Addr} {H H' : Hp} (e : Same H H') (h : SrcAt H sa ca) : SrcAt H' sa ca := by
  obtain ⟨ns, l, s, d, h1, h2, h3⟩ := h
  exact ⟨ns, l, s, d, e _ _ h1, e _ _ h2, h3⟩
theorem Drw.of {sa ca : Addr} {H H' : Hp} (h : SrcAt H sa ca) (e : Same H H') : Drw sa ca H H' := ⟨fun b o h _ _ => e b o h, h.mono e⟩
theorem Drw.more {sa ca : Addr} {H H1 H2 : Hp} (a : Drw sa ca H H1) (e : Same H1 H2) : Drw sa ca H H2 := a.trans (Drw.of a.src e)
theorem Drw.tup {sa ca : Addr} {H H' : Hp} (h : SrcAt H sa ca) (e : Drw sa ca H H') : SameT H H' := by
  obtain ⟨ns, l, s, d, h1, h2, h3⟩ := h
  exact ⟨fun a xs h => e.keep _ _ h (ne_of h h1 (by intro z; cases z)) (ne_of h h2 (by intro z; cases z)), fun a o xs h => e.keep _ _ h (ne_of h h1 (by intro z; cases z)) (ne_of h h2 (by intro z; cases z))⟩
/-- what is new is not the source -/
theorem SrcAt.ne {sa ca : Addr} {H : Hp} (h : SrcAt H sa ca) {p : Addr} (hp : H p = none) : p ≠ sa ∧ p ≠ ca := by
  obtain ⟨ns, l, s, d, h1, h2, h3⟩ := h
  exact ⟨(ne_of_none h1 hp).symm, (ne_of_none h2 hp).symm⟩
theorem b_rI {C : Int → Int → Prop} {g : Int → Int → V} {i j : Int} {H : Hp} {Q : VK} (c : C i j) (h : Q (g i j) H) : rI C g (.int i) (.int j) H Q := ⟨i, j, rfl, rfl, c, h⟩
theorem DGetS {a : Addr} {kvs : List (Key × V)} {z : Str} {v : V} {H : Hp} (e : H a = some (.dK kvs)) (hv : valV kvs (Sum.inr z : Key) = some v) : DGet H a (.str z) (some v) := by
  have g := DGet.k (k := (Sum.inr z : Key)) e
  rw [hv] at g
  exact g
theorem src_len {ca : Addr} {l s d : Int} : (srcK ca l s d).length = 4 := rfl
theorem src_lt {ca : Addr} {l s d : Int} : (srcK ca l s d).length < sizeLine := by rw [src_len]; decide
theorem src_le {ca : Addr} {l s d : Int} : (srcK ca l s d).length ≤ 10000 := by rw [src_len]; decide
theorem src_merge {ca : Addr} {l s d : Int} : mergeK [] (srcK ca l s d) = srcK ca l s d := rfl
theorem cutV_map {α : Type} {f : α → V} {ns : List α} {lo hi : Option Int} : ∃ ms : List α, cutV (ns.map f) lo hi = ms.map f ∧ ms.length ≤ ns.length := by
  refine ⟨_, by unfold cutV; rw [List.length_map, ← List.map_drop, ← List.map_take], ?_⟩
  rw [List.length_take, List.length_drop]
  omega
abbrev N__law_source : List Str := ["script", "cell"]
abbrev S__law_source : Scope := defScope (top 69)
theorem sc__law_source : FnScope N__law_source ["script"] (defScope (top 69)) := ⟨rfl, rfl, rfl, by decide +kernel, rfl, by decide +kernel, by decide +kernel⟩
def f_source (K : PySem.W.Frag) (x : V) (H : Hp) (Q : VK) : Prop := ∃ a, ∃ ns : List Int, x = .ref a ∧ SqL K H a (ns.map V.int) ∧ ns.length ≤ 63 ∧ ∀ sa ca H', SrcAt H' sa ca → Q (.ref sa) H'
theorem ok_source (M : Md w K mg) : Cal P w K mg base 1 "_law_source" ["script"] (s1 (f_source K)) := by
  obtain ⟨fd, F⟩ := M.fd__law_source
  refine ⟨⟨_, fd, fn_of_d F sc__law_source s1_len (fun cdv A outer s H vs Q E hr h => ?_), M.gl__law_source, F.kp, F.bindsN fun _ _ _ _ _ _ us hl => match us, hl with | [_], _ => rfl⟩⟩
  have hu := hu_of hr
  have nd := sc__law_source.nd
  obtain ⟨_, rfl, a, ns, rfl, ha, hn, q⟩ := h
  refine ⟨_, (pss_one (ps_ret (pe_disp (pps_cons pe_str (pe_lc (own := [("cell", 1)]) (g := gName 1) (tt := tYes) rfl nd (pi_list (pe_slice (sl_listK (K := K) rfl) (pv 0) po_none (po_some pe_int))) (blkOk_by (own := [("cell", 1)]) (N := N__law_source) (sc := S__law_source) (by decide +kernel)) (fun _ _ _ _ _ => (pg_name (i := 1) nd rfl (Or.inl rfl))) (fun _ _ _ _ _ => pts_nil) (fun _ _ _ _ _ => (pe_callTy call_intN rfl M.fr_int (by decide +kernel) (pa_cons (pv 1) pa_nil)))) (pps_cons pe_str pe_int (pps_cons pe_str pe_int (pps_cons pe_str pe_int pps_nil)))) (by rfl) (by rfl) (fun z => by cases z) (by decide)))), ?_⟩
  walk_at "rd"
  refine fun sa hsa => ?_
  have ha1 := (Same.new (o := .dK []) hsa).seq ha
  have hs1 : (upd H sa (.dK [])) sa = some (.dK []) := upd_same
  generalize upd H sa (.dK []) = H1 at ha1 hs1 ⊢
  simp only [tPairs]
  walk_at "rd"
  refine a_lclist ?_
  refine ⟨_, rfl, 63, rfl, a, _, rfl, ha1, fun p hp => ?_⟩
  obtain ⟨ms, e, hml⟩ := cutV_map (f := V.int) (ns := ns) (lo := none) (hi := some 63)
  rw [e]
  have hp1 : (upd H1 p (.lst (ms.map V.int))) p = some (.lst (ms.map V.int)) := upd_same
  have hs2 := (Same.new (o := .lst (ms.map V.int)) hp) _ _ hs1
  generalize upd H1 p (.lst (ms.map V.int)) = H2 at hp1 hs2 ⊢
  refine ⟨p, rfl, ⟨_, SqL.of hp1⟩, ?_⟩
  refine fun D hD => lc_list (xs := ms.map V.int) (fun i H' => Same H2 H' ∧ H' D = some (.lst ((ms.take i).map V.int))) ⟨Same.new hD, upd_same⟩ (fun i H' _ z => SqL.of (z.1 _ _ hp1)) ?_ ?_
  · rintro i x H3 hx ⟨g3, hd3⟩
    rw [List.getElem?_map] at hx
    obtain ⟨c, hc, rfl⟩ := Option.map_eq_some_iff.mp hx
    walk_at "rd"
    refine ⟨rfl, ?_⟩
    walk_at "rd"
    refine ⟨_, hd3, ?_, Same.mut g3 hD, ?_⟩
    · rw [List.length_map, List.length_take]
      exact small1000 (by omega)
    · rw [upd_same, take_succ_at hc, List.map_append]
      rfl
  rintro H3 ⟨g3, hd3⟩
  rw [List.length_map, List.take_length] at hd3
  walk_at "rd"
  have nDs : D ≠ sa := (ne_of_none hs2 hD).symm
  refine ⟨g3 _ _ hs2, srcK D 0 12345 0, rfl, by rw [src_len]; decide, ?_⟩
  rw [src_merge]
  exact q sa D _ ⟨ms, 0, 12345, 0, upd_same, by rw [upd_ne nDs]; exact hd3, by omega⟩
abbrev N__law_mixed : List Str := ["source", "number"]
abbrev S__law_mixed : Scope := defScope (top 70)
theorem sc__law_mixed : FnScope N__law_mixed ["source"] (defScope (top 70)) := ⟨rfl, rfl, rfl, by decide +kernel, rfl, by decide +kernel, by decide +kernel⟩
def f_mixed (x : V) (H : Hp) (Q : VK) : Prop := ∃ sa ca, x = .ref sa ∧ SrcAt H sa ca ∧ ∀ i H', Drw sa ca H H' → Q (.int i) H'
theorem ok_mixed (M : Md w K mg) : Cal P w K mg base 1 "_law_mixed" ["source"] (s1 f_mixed) := by
  obtain ⟨fd, F⟩ := M.fd__law_mixed
  refine ⟨⟨_, fd, fn_of_d F sc__law_mixed s1_len (fun cdv A outer s H vs Q E hr h => ?_), M.gl__law_mixed, F.kp, F.bindsN fun _ _ _ _ _ _ us hl => match us, hl with | [_], _ => rfl⟩⟩
  have hu := hu_of hr
  have nd := sc__law_mixed.nd
  obtain ⟨_, rfl, sa, ca, rfl, ⟨ns, l, s, d, hsa, hca, hns⟩, q⟩ := h
  refine ⟨_, (pss_cons (ps_daug hu (pv 0) pe_str pe_int in_add (fun _ _ _ => rfl)) (pss_cons (ps_set (i := 1) nd rfl (Or.inl rfl) (pe_op op_mod (pe_callTy call_intN rfl M.fr_int (by decide +kernel) (pa_cons (pe_op op_mul (pe_op op_add (pe_op op_add (pe_dget hu (pv 0) pe_str (fun _ _ => rfl)) (pe_op op_mul pe_int (pe_dget hu (pv 0) pe_str (fun _ _ => rfl)))) pe_int) pe_int) pa_nil)) pe_int)) (pss_cons (ps_set (i := 1) nd rfl (Or.inl rfl) (pe_op op_mod (pe_callTy call_intN rfl M.fr_int (by decide +kernel) (pa_cons (pe_op op_mul (pv 1) (pe_op op_add (pe_op op_fdiv (pv 1) pe_int) pe_int)) pa_nil)) pe_int)) (pss_one (ps_ret (pe_op op_fdiv (pe_op op_mod (pe_callTy call_intN rfl M.fr_int (by decide +kernel) (pa_cons (pe_op op_mul (pv 1) (pe_op op_add (pe_op op_fdiv (pv 1) pe_int) pe_int)) pa_nil)) pe_int) pe_int)))))), ?_⟩
  walk_at "rd"
  refine ⟨_, rfl, sa, .int d, rfl, DGetS hsa src_drawn, ?_⟩
  refine ⟨_, _, rfl, rfl, _, DPut.k (k := (Sum.inr "drawn" : Key)) hsa src_lt, ?_⟩
  rw [src_pdrawn]
  have h1 : (upd H sa (.dK (srcK ca l s (d + 1)))) sa = some (.dK (srcK ca l s (d + 1))) := upd_same
  have D1 : Drw sa ca H (upd H sa (.dK (srcK ca l s (d + 1)))) := ⟨fun b o hb h1 h2 => by rw [upd_ne h1]; exact hb, ns, l, s, d + 1, upd_same, by rw [upd_ne (ne_of hca hsa (by intro z; cases z))]; exact hca, hns⟩
  generalize upd H sa (.dK (srcK ca l s (d + 1))) = H1 at h1 D1 ⊢
  have m1 : ∀ i : Int, 0 ≤ i % 2147483647 ∧ i % 2147483647 < 2147483647 := fun i => by omega
  walk_at "rd"
  refine b_dgetS h1 src_seed ?_
  walk_at "rd"
  refine b_dgetS h1 src_drawn ?_
  refine b_rI (.inl (by decide)) ?_
  walk_at "rd"
  refine b_rI (.inr (by decide)) ?_
  walk_at "rd"
  refine b_rI (by decide) ?_
  walk_at "rd"
  generalize hn : (s + 7919 * (d + 1) + 1) * 48271 % 2147483647 = n
  have hn1 := m1 ((s + 7919 * (d + 1) + 1) * 48271)
  rw [hn] at hn1
  refine b_rI ⟨by decide, by decide⟩ ?_
  walk_at "rd"
  refine b_rI (.inl (by omega)) ?_
  walk_at "rd"
  refine b_rI (by decide) ?_
  walk_at "rd"
  generalize hn2 : n * (n / 1009 + 69621) % 2147483647 = n2
  have hn3 := m1 (n * (n / 1009 + 69621))
  rw [hn2] at hn3
  refine b_rI ⟨by decide, by decide⟩ ?_
  walk_at "rd"
  refine b_rI (.inl (by omega)) ?_
  walk_at "rd"
  refine b_rI (by decide) ?_
  walk_at "rd"
  refine b_rI ⟨by decide, by decide⟩ ?_
  exact q _ _ D1
abbrev N__law_draw : List Str := ["source", "many", "cell", "digit"]
abbrev S__law_draw : Scope := defScope (top 71)
theorem sc__law_draw : FnScope N__law_draw ["source", "many"] (defScope (top 71)) := ⟨rfl, rfl, rfl, by decide +kernel, rfl, by decide +kernel, by decide +kernel⟩
def f_draw (x m : V) (H : Hp) (Q : VK) : Prop := ∃ sa ca k, x = .ref sa ∧ SrcAt H sa ca ∧ m = .int k ∧ 0 < k ∧ k < 1000000 ∧ ∀ i H', 0 ≤ i → i < k → Drw sa ca H H' → Q (.int i) H'
theorem ok_draw (M : Md w K mg) (C__law_mixed : Cal P w K mg base 1 "_law_mixed" ["source"] (s1 f_mixed)) : Cal P w K mg base 2 "_law_draw" ["source", "many"] (s2 f_draw) := by
  obtain ⟨fd, F⟩ := M.fd__law_draw
  refine ⟨⟨_, fd, fn_of_d F sc__law_draw s2_len (fun cdv A outer s H vs Q E hr h => ?_), M.gl__law_draw, F.kp, F.bindsN fun _ _ _ _ _ _ us hl => match us, hl with | [_, _], _ => rfl⟩⟩
  have hu := hu_of hr
  have nd := sc__law_draw.nd
  obtain ⟨_, _, rfl, sa, ca, k, rfl, ⟨ns, l, s, d, hsa, hca, hns⟩, rfl, hk, hk2, q⟩ := h
  refine ⟨_, (pss_cons (ps_if (PW.pt (pw_and (pt_cmpR op_eq (pe_dget hu (pv 0) pe_str (fun _ _ => rfl)) pe_int (nomark _)) (pw_and1 (pt_cmpR op_gt (pe_callB (call_lenK (K := K) rfl) rfl M.fr_len PySem.boot_len (pa_cons (pe_dget hu (pv 0) pe_str (fun _ _ => rfl)) pa_nil)) pe_int (nomark _))))) (pss_cons (ps_set (i := 2) nd rfl (Or.inl rfl) (pe_bm PySem.F.plainAttrs_list PySem.F.slot_list_pop PySem.F.type_list_pop mt_popAt (pe_dget hu (pv 0) pe_str (fun _ _ => rfl)) (pa_cons pe_int pa_nil))) (pss_one (ps_if (pt_cmpR op_ge (pv 2) (pe_op op_pow pe_int pe_int) (nomark _)) (pss_one (ps_dput hu (pv 0) pe_str (pv 2) rfl)) (pss_one (ps_dput hu (pv 0) pe_str (pe_op op_mod (pe_callTy call_intN rfl M.fr_int (by decide +kernel) (pa_cons (pe_op op_add (pe_op op_mul (pe_dget hu (pv 0) pe_str (fun _ _ => rfl)) pe_int) (pe_op op_mod (pe_callTy call_intN rfl M.fr_int (by decide +kernel) (pa_cons (pv 2) pa_nil)) pe_int)) pa_nil)) pe_int) rfl))))) pss_nil) (pss_cons (ps_if (pt_cmpR op_gt (pe_dget hu (pv 0) pe_str (fun _ _ => rfl)) pe_int (nomark _)) (pss_cons (ps_set (i := 3) nd rfl (Or.inl rfl) (pe_op op_mod (pe_callTy call_intN rfl M.fr_int (by decide +kernel) (pa_cons (pe_dget hu (pv 0) pe_str (fun _ _ => rfl)) pa_nil)) (pv 1))) (pss_cons (ps_dput hu (pv 0) pe_str (pe_op op_fdiv (pe_dget hu (pv 0) pe_str (fun _ _ => rfl)) (pv 1)) rfl) (pss_one (ps_ret (pv 3))))) pss_nil) (pss_one (ps_ret (pe_op op_mod (pe_callTy call_intN rfl M.fr_int (by decide +kernel) (pa_cons (pe_cl C__law_mixed (hr.mono (by first | decide | omega)) rfl (pa_cons (pv 0) pa_nil)) pa_nil)) (pv 1)))))), ?_⟩
  have nca : ca ≠ sa := ne_of hca hsa (by intro z; cases z)
  have fin : ∀ (i : Int) H', Drw sa ca H H' → Q (.int (i % k)) H' := fun i H' D => q _ _ (Int.emod_nonneg _ (by omega)) (Int.emod_lt_of_pos _ hk) D
  walk_at "rx"
  with_reducible refine s_cut (fun σ' H' => Drw sa ca H H' ∧ ∃ v2, σ' = [some (.ref sa), some (.int k), v2, none]) ?_ ?_
  · intro nx' hnx
    walk_at "rd"
    refine b_dgetS hsa src_left ?_
    walk_at "rd"
    have no : nx' [some (.ref sa), some (.int k), none, none] H := hnx _ _ ⟨Drw.refl ⟨ns, l, s, d, hsa, hca, hns⟩, _, rfl⟩
    refine a_ite (fun e1 => ?_) (fun e1 => ?_)
    · walk_at "rd"
      refine b_dgetS hsa src_cells ?_
      walk_at "rd"
      refine b_lenL (SqL.of hca) ?_
      walk_at "rd"
      refine a_ite (fun e2 => ?_) (fun e2 => ?_)
      · rw [List.length_map] at e2
        cases ns with
        | nil => exact absurd e2 (by decide)
        | cons c ns =>
          walk_at "rd"
          refine b_dgetS hsa src_cells ?_
          refine ⟨.inl ⟨rfl, _, SqL.of hca⟩, ?_⟩
          walk_at "rd"
          refine ⟨ca, _, 0, 0, .int c, rfl, rfl, hca, by decide, by decide, by unfold seqIndex?; simp, rfl, ?_⟩
          have hs1 : (upd H ca (.lst ((List.map V.int (c :: ns)).eraseIdx 0))) sa = some (.dK (srcK ca l s d)) := by rw [upd_ne nca.symm]; exact hsa
          have hc1 : (upd H ca (.lst ((List.map V.int (c :: ns)).eraseIdx 0))) ca = some (.lst (ns.map V.int)) := by rw [upd_same]; rfl
          have hk1 : ∀ b o, H b = some o → b ≠ sa → b ≠ ca → (upd H ca (.lst ((List.map V.int (c :: ns)).eraseIdx 0))) b = some o := fun b o hb h1 h2 => by rw [upd_ne h2]; exact hb
          have hnl : ns.length ≤ 63 := by have : (c :: ns).length ≤ 63 := hns; rw [List.length_cons] at this; omega
          generalize upd H ca (.lst ((List.map V.int (c :: ns)).eraseIdx 0)) = H1 at hs1 hc1 hk1 ⊢
          have put : ∀ l' s', Drw sa ca H (upd H1 sa (.dK (srcK ca l' s' d))) := fun l' s' => ⟨fun b o hb h1 h2 => by rw [upd_ne h1]; exact hk1 b o hb h1 h2, ns, l', s', d, upd_same, by rw [upd_ne nca]; exact hc1, hnl⟩
          walk_at "rd"
          refine b_rI ⟨by decide, by decide, by decide⟩ ?_
          walk_at "rd"
          refine a_ite (fun e3 => ?_) (fun e3 => ?_)
          · walk_at "rd"
            refine b_dputS hs1 src_le ?_
            rw [src_pleft]
            exact hnx _ _ ⟨put _ _, _, rfl⟩
          · walk_at "rd"
            refine b_dgetS hs1 src_seed ?_
            walk_at "rd"
            refine b_rI (.inr (by decide)) ?_
            walk_at "rd"
            refine b_rI (by decide) ?_
            walk_at "rd"
            refine b_rI (by decide) ?_
            walk_at "rd"
            refine b_dputS hs1 src_le ?_
            rw [src_pseed]
            exact hnx _ _ ⟨put _ _, _, rfl⟩
      · walk_at "rd"
        exact no
    · walk_at "rd"
      exact no
  rintro σ1 H1 ⟨D1, v2, rfl⟩
  obtain ⟨ns1, l1, s1, d1, hs1, hc1, hn1⟩ := D1.src
  walk_at "rd"
  refine b_dgetS hs1 src_left ?_
  walk_at "rd"
  refine a_ite (fun e1 => ?_) (fun e1 => ?_)
  · walk_at "rd"
    refine b_dgetS hs1 src_left ?_
    walk_at "rd"
    refine b_rI hk ?_
    walk_at "rd"
    refine b_dgetS hs1 src_left ?_
    walk_at "rd"
    refine b_rI ⟨hk, by omega⟩ ?_
    walk_at "rd"
    refine b_dputS hs1 src_le ?_
    rw [src_pleft]
    walk_at "rd"
    exact fin _ _ (D1.trans ⟨fun b o hb h1 h2 => by rw [upd_ne h1]; exact hb, ns1, _, s1, d1, upd_same, by rw [upd_ne nca]; exact hc1, hn1⟩)
  · walk_at "rd"; walk_at "rc"
    refine ⟨sa, ca, rfl, D1.src, fun i H2 D2 => ?_⟩
    walk_at "rd"
    refine b_rI hk ?_
    exact fin _ _ (D1.trans D2)
end

end T51

set_option Elab.async false
set_option linter.all false
set_option maxRecDepth 100000
set_option maxHeartbeats 4000000
namespace T51
open PySem PySem.Spec PyProof.Rows L2
local macro_rules | `(tactic| walk_at "rd1") => `(tactic| with_reducible first
  | refine a_seq ?_ | refine a_var rfl ?_ | refine a_c ?_ | refine a_op ?_ | refine a_cons ?_ | refine a_nil ?_ | refine a_cb ?_ | refine a_asg ?_ | refine a_gname ?_ | refine a_ret ?_
  | refine a_if ?_ | refine a_test ?_ | refine a_tB ?_ | refine a_blP ?_ | refine a_and ?_ | refine a_or ?_ | refine a_not ?_ | refine a_andV ?_ | refine a_orV ?_ | refine a_notV ?_ | refine a_ifE ?_
  | refine a_rI0 ?_ | refine a_eqS ?_ | refine a_eqI ?_ | refine a_neS ?_ | refine a_neI ?_ | refine a_call ?_ | refine a_tup ?_ | refine a_lst ?_ | refine a_chain ?_ | refine a_iteT ?_ | refine a_iteF ?_ | refine a_iteNT ?_ | refine a_iteNF ?_
  | refine a_drop ?_ | refine a_next ?_ | refine a_cont ?_ | refine a_break ?_ | refine a_retN ?_ | refine a_ipI ?_ | refine a_aug rfl ?_ | refine a_bm ?_ | refine a_bm0 ?_ | refine b_ord ?_ | refine b_int ?_ | refine b_isN ?_ | refine b_notN ?_ | refine a_un ?_ | refine b_rU ?_ | refine a_fld ?_ | refine a_sfld ?_ | refine a_meth ?_ | refine a_make ?_
  | refine a_dget ?_ | refine a_din ?_ | refine a_dnin ?_ | refine a_dput ?_ | refine a_yes ?_ | refine a_gsub ?_)
local macro_rules | `(tactic| walk_at "is") => `(tactic| with_reducible first
  | refine a_isi_int_int ?_ | refine a_isi_int_bool ?_ | refine a_isi_int_str ?_ | refine a_isi_int_list ?_ | refine a_isi_int_tuple ?_ | refine a_isi_int_dict ?_
  | refine a_isi_bl_int ?_ | refine a_isi_bl_bool ?_ | refine a_isi_bl_str ?_ | refine a_isi_bl_list ?_ | refine a_isi_bl_tuple ?_ | refine a_isi_bl_dict ?_
  | refine a_isi_str_int ?_ | refine a_isi_str_bool ?_ | refine a_isi_str_str ?_ | refine a_isi_str_list ?_ | refine a_isi_str_tuple ?_ | refine a_isi_str_dict ?_
  | refine a_isi_non_int ?_ | refine a_isi_non_bool ?_ | refine a_isi_non_str ?_ | refine a_isi_non_list ?_ | refine a_isi_non_tuple ?_ | refine a_isi_non_dict ?_)
local macro_rules | `(tactic| walk_at "rd") => `(tactic| repeat (walk_at "rd1"))
local macro_rules | `(tactic| walk_at "hp") => `(tactic| first
  | with_reducible assumption
  | with_reducible exact upd_same
  | (with_reducible refine SqL.of ?_; walk_at "hp")
  | (with_reducible refine SqT.of ?_; walk_at "hp")
  | (with_reducible refine Eq.trans (upd_ne ?_) ?_; rotate_left; focus (walk_at "hp"); walk_at "ne")
  | (with_reducible refine (by with_reducible assumption : Same _ _) _ _ ?_; walk_at "hp"))
local macro_rules | `(tactic| walk_at "ne") => `(tactic| first
  | with_reducible assumption
  | with_reducible exact Ne.symm (by with_reducible assumption)
  | (with_reducible refine ne_of_none ?_ (by with_reducible assumption); walk_at "hp")
  | (with_reducible refine Ne.symm (ne_of_none ?_ (by with_reducible assumption)); walk_at "hp"))
local macro_rules | `(tactic| walk_at "rc") => `(tactic| with_reducible first
  | refine a_s1 ?_ | refine a_s2 ?_ | refine a_s3 ?_ | refine a_s4 ?_ | refine a_s0 ?_ | refine a_m1 ?_ | refine a_m2 ?_ | refine a_m3 ?_ | refine a_m4 ?_)
local macro_rules | `(tactic| walk_at "rx1") => `(tactic| with_reducible first
  | refine a_var rfl ?_ | refine a_c ?_ | refine a_op ?_ | refine a_cons ?_ | refine a_nil ?_ | refine a_cb ?_ | refine a_asg ?_ | refine a_gname ?_ | refine a_ret ?_
  | refine a_if ?_ | refine a_test ?_ | refine a_tB ?_ | refine a_blP ?_ | refine a_and ?_ | refine a_or ?_ | refine a_not ?_ | refine a_andV ?_ | refine a_orV ?_ | refine a_notV ?_ | refine a_ifE ?_
  | refine a_rI0 ?_ | refine a_eqS ?_ | refine a_eqI ?_ | refine a_neS ?_ | refine a_neI ?_ | refine a_call ?_ | refine a_tup ?_ | refine a_lst ?_ | refine a_chain ?_ | refine a_iteT ?_ | refine a_iteF ?_ | refine a_iteNT ?_ | refine a_iteNF ?_
  | refine a_drop ?_ | refine a_next ?_ | refine a_cont ?_ | refine a_break ?_ | refine a_retN ?_ | refine a_ipI ?_ | refine a_aug rfl ?_ | refine a_bm ?_ | refine a_bm0 ?_ | refine b_ord ?_ | refine b_int ?_ | refine b_isN ?_ | refine b_notN ?_ | refine a_un ?_ | refine b_rU ?_ | refine a_fld ?_ | refine a_sfld ?_ | refine a_meth ?_ | refine a_make ?_
  | refine a_dget ?_ | refine a_din ?_ | refine a_dnin ?_ | refine a_dput ?_ | refine a_yes ?_ | refine a_gsub ?_)
local macro_rules | `(tactic| walk_at "rx") => `(tactic| repeat (walk_at "rx1"))
section
variable {P : Program} {w : World} {K : PySem.W.Frag} {mg : Str → Option Value} {base : Heap}
theorem a_lcrng1 {t : TA} {g : TG} {tt : TT} {te : TE} {vs : List Nat} {σ : L2.St} {H : Hp} {Q : VK} (h : t σ H fun vs' H1 => ∃ j : Int, vs' = [.int j] ∧ -(2 ^ 62) ≤ j ∧ j < 2 ^ 62 ∧ tLc (fun _ H R => R (Itr 0 j.toNat) H) g tt te vs σ H1 Q) : tLc (iRng1 t) g tt te vs σ H Q := h
theorem a_frng1 {t : TA} {g : TG} {tb : TS} {D : Ends} {σ : L2.St} {H : Hp} (h : t σ H fun vs' H1 => ∃ j : Int, vs' = [.int j] ∧ -(2 ^ 62) ≤ j ∧ j < 2 ^ 62 ∧ tFor (fun _ H R => R (Itr 0 j.toNat) H) g tb D σ H1) : tFor (iRng1 t) g tb D σ H := h
theorem l_cut {t : TA} {σ : L2.St} {H : Hp} {R : List V → Hp → Prop} (Pt : List V → Hp → Prop) (h1 : ∀ R' : List V → Hp → Prop, (∀ c H', Pt c H' → R' c H') → t σ H R') (h2 : ∀ c H', Pt c H' → R c H') : t σ H R := h1 R h2
theorem Drw.mut {sa ca p : Addr} {H0 H : Hp} {o : HO} (d : Drw sa ca H0 H) (hp : H0 p = none) (n1 : p ≠ sa) (n2 : p ≠ ca) : Drw sa ca H0 (upd H p o) := by
  obtain ⟨ns, l, sd, e, k1, k2, k3⟩ := d.src
  exact ⟨fun b u hb h1 h2 => by rw [upd_ne (ne_of_none hb hp)]; exact d.keep b u hb h1 h2, ns, l, sd, e, by rw [upd_ne n1.symm]; exact k1, by rw [upd_ne n2.symm]; exact k2, k3⟩
/-! ### rows that are drawn -/
def okPre (r : Ins) : Prop := (plB r.w = true ∧ ∃ g : Nat, r.x = some (.int (g : Nat))) ∨ (plB r.w = false ∧ ∀ n : Int, okIns n r = true)
structure RowsAt (K : PySem.W.Frag) (sa ca : Addr) (H : Hp) (p : Addr) (rs : List Ins) : Prop where
  at_ : ∃ xs, H p = some (.lst xs) ∧ Rows K H xs rs
  ns : p ≠ sa
  nc : p ≠ ca
theorem RowsAt.mono {sa ca p : Addr} {H H' : Hp} {rs : List Ins} (h : RowsAt K sa ca H p rs) (s : SrcAt H sa ca) (e : Drw sa ca H H') : RowsAt K sa ca H' p rs := by
  obtain ⟨xs, h1, h2⟩ := h.at_
  exact ⟨⟨xs, e.keep _ _ h1 h.ns h.nc, Rows.tup (e.tup s) h2⟩, h.ns, h.nc⟩
theorem row_mono {sa ca : Addr} {H H' : Hp} {v : V} {r : Ins} (h : RowAt K H v r) (s : SrcAt H sa ca) (e : Drw sa ca H H') : RowAt K H' v r := sameT_row (e.tup s) h
theorem b_ixTn {p : Addr} {xs : List V} {i : Int} {v : V} {H : Hp} {Q : VK} (e : SqT K H p xs) (h0 : 0 ≤ i) (hv : xs[i.toNat]? = some v) (h : Q v H) : rIxT K (.ref p) (.int i) H Q := by
  have hi : i = ((i.toNat : Nat) : Int) := by omega
  rw [hi]
  exact a_ixT e (atI_nat hv) h
theorem szd {n : Nat} {m : Nat} (h : n = m) (h2 : m ≤ 1000) : n ≤ 100000 := by omega
abbrev N__law_many : List Str := ["row"]
abbrev S__law_many : Scope := defScope (top 72)
theorem sc__law_many : FnScope N__law_many ["row"] (defScope (top 72)) := ⟨rfl, rfl, rfl, by decide +kernel, rfl, by decide +kernel, by decide +kernel⟩
def f_many (K : PySem.W.Frag) (x : V) (H : Hp) (Q : VK) : Prop := ∃ a z, x = .ref a ∧ SqT K H a [.str "deed", .str z] ∧ ∀ (k : Nat) H', k ≤ 3 → Same H H' → Q (.int k) H'
theorem ok_many (M : Md w K mg) : Cal P w K mg base 1 "_law_many" ["row"] (s1 (f_many K)) := by
  obtain ⟨fd, F⟩ := M.fd__law_many
  refine ⟨⟨_, fd, fn_of_d F sc__law_many s1_len (fun cdv A outer s H vs Q E hr h => ?_), M.gl__law_many, F.kp, F.bindsN fun _ _ _ _ _ _ us hl => match us, hl with | [_], _ => rfl⟩⟩
  have hu := hu_of hr
  have nd := sc__law_many.nd
  obtain ⟨_, rfl, a, z, rfl, ha, q⟩ := h
  refine ⟨_, (pss_cons (ps_if (pt_cmpR op_eq (pe_ix (ix_tupK (K := K) rfl) (pv 0) pe_int (fun _ _ => rfl)) pe_str (nomark _)) (pss_one (ps_ret (pe_ix (ix_tupK (K := K) rfl) (pv 0) pe_int (fun _ _ => rfl)))) pss_nil) (pss_cons (ps_if (pt_cmpR (op_inK (K := K) rfl) (pe_ix (ix_tupK (K := K) rfl) (pv 0) pe_int (fun _ _ => rfl)) (pe_tup (pa_cons pe_str (pa_cons pe_str (pa_cons pe_str (pa_cons pe_str (pa_cons pe_str (pa_cons pe_str (pa_cons pe_str (pa_cons pe_str (pa_cons pe_str (pa_cons pe_str (pa_cons pe_str pa_nil)))))))))))) (by first | rfl | exact nomark _)) (pss_one (ps_ret pe_int)) pss_nil) (pss_one (ps_ret (pe_dget2 hu (pe_disp (pps_cons pe_str pe_int (pps_cons pe_str pe_int pps_nil)) (by rfl) (by rfl) (fun z => by cases z) (by decide)) (pe_ix (ix_tupK (K := K) rfl) (pv 0) pe_int (fun _ _ => rfl)) pe_int ⟨by rfl, by rfl, by rfl, by rfl⟩))))), ?_⟩
  walk_at "rd"
  refine a_ixT ha rfl ?_
  walk_at "rd"
  refine a_ite (fun e1 => absurd e1 (by decide +kernel)) (fun e1 => ?_)
  walk_at "rd"
  refine a_ixT ha rfl ?_
  walk_at "rd"
  refine ⟨by decide +kernel, fun T hT => ?_⟩
  refine b_inT (SqT.of upd_same) rfl (by decide +kernel) rfl ?_
  have g1 := Same.new (o := .tup [.str "take", .str "size", .str "say", .str "move", .str "tab", .str "many", .str "match", .str "anew", .str "items", .str "find", .str "reach"]) hT
  walk_at "rd"
  refine a_iteB (fun e2 => ?_) (fun e2 => ?_)
  · walk_at "rd"
    exact q 1 _ (by omega) g1
  · walk_at "rd"
    generalize upd H T (.tup [.str "take", .str "size", .str "say", .str "move", .str "tab", .str "many", .str "match", .str "anew", .str "items", .str "find", .str "reach"]) = H1 at g1 ⊢
    refine fun p hp => ?_
    refine ⟨upd_same, [(Sum.inr "place", .int 3), (Sum.inr "here", .int 0)], rfl, by decide, ?_⟩
    have hu2 : ∀ {kvs : List (Key × V)}, upd (upd H1 p (.dK [])) p (.dK kvs) = upd H1 p (.dK kvs) := fun {kvs} => by
      funext b
      by_cases e : b = p
      · rw [e, upd_same, upd_same]
      · rw [upd_ne e, upd_ne e, upd_ne e]
    rw [hu2]
    refine ⟨p, rfl, .inl ⟨_, .inl upd_same⟩, ?_⟩
    walk_at "rd"
    refine a_ixT (Same.seqT (Same.more g1 hp) ha) rfl ?_
    walk_at "rd"
    refine ⟨_, DGet.k (k := (Sum.inr z : Key)) upd_same, ?_⟩
    have g2 := Same.more (o := .dK (mergeK [] [(Sum.inr "place", .int 3), (Sum.inr "here", .int 0)])) g1 hp
    by_cases c1 : z = "place"
    · rw [c1]; exact q 3 _ (by omega) g2
    by_cases c2 : z = "here"
    · rw [c2]; exact q 0 _ (by omega) g2
    have : valV (mergeK [] [((Sum.inr "place" : Key), V.int 3), (Sum.inr "here", .int 0)]) (Sum.inr z : Key) = none := by
      show valV [((Sum.inr "place" : Key), V.int 3), (Sum.inr "here", .int 0)] (Sum.inr z : Key) = none
      rw [valV_neg (by intro y; exact c1 (Sum.inr.inj y).symm), valV_neg (by intro y; exact c2 (Sum.inr.inj y).symm)]
      rfl
    rw [this]
    exact q 2 _ (by omega) g2
abbrev N__law_one : List Str := ["source", "words"]
abbrev S__law_one : Scope := defScope (top 73)
theorem sc__law_one : FnScope N__law_one ["source", "words"] (defScope (top 73)) := ⟨rfl, rfl, rfl, by decide +kernel, rfl, by decide +kernel, by decide +kernel⟩
def f_one (K : PySem.W.Frag) (x t : V) (H : Hp) (Q : VK) : Prop := ∃ sa ca T, ∃ zs : List Str, x = .ref sa ∧ SrcAt H sa ca ∧ t = .ref T ∧ SqT K H T (zs.map V.str) ∧ 0 < zs.length ∧ zs.length < 1000 ∧ ∀ z H', z ∈ zs → Drw sa ca H H' → Q (.str z) H'
theorem ok_one (M : Md w K mg) (C__law_draw : Cal P w K mg base 2 "_law_draw" ["source", "many"] (s2 f_draw)) : Cal P w K mg base 3 "_law_one" ["source", "words"] (s2 (f_one K)) := by
  obtain ⟨fd, F⟩ := M.fd__law_one
  refine ⟨⟨_, fd, fn_of_d F sc__law_one s2_len (fun cdv A outer s H vs Q E hr h => ?_), M.gl__law_one, F.kp, F.bindsN fun _ _ _ _ _ _ us hl => match us, hl with | [_, _], _ => rfl⟩⟩
  have hu := hu_of hr
  have nd := sc__law_one.nd
  obtain ⟨_, _, rfl, sa, ca, T, zs, rfl, hs, rfl, ht, h0, h1, q⟩ := h
  refine ⟨_, (pss_one (ps_ret (pe_ix (ix_tupK (K := K) rfl) (pv 1) (pe_cl C__law_draw (hr.mono (by first | decide | omega)) rfl (pa_cons (pv 0) (pa_cons (pe_callB (call_lenK (K := K) rfl) rfl M.fr_len PySem.boot_len (pa_cons (pv 1) pa_nil)) pa_nil))) (fun _ _ => rfl)))), ?_⟩
  walk_at "rd"
  refine b_lenT ht ?_
  walk_at "rd"; walk_at "rc"
  refine ⟨sa, ca, _, rfl, hs, rfl, by rw [List.length_map]; omega, by rw [List.length_map]; omega, fun i H1 hi0 hi D1 => ?_⟩
  rw [List.length_map] at hi
  have hlt : i.toNat < zs.length := by omega
  refine b_ixTn ((D1.tup hs).sq ht) hi0 (by rw [List.getElem?_map, List.getElem?_eq_getElem hlt]; rfl) ?_
  exact q _ _ (List.getElem_mem hlt) D1
abbrev N__law_constant : List Str := ["source", "k"]
abbrev S__law_constant : Scope := defScope (top 74)
theorem sc__law_constant : FnScope N__law_constant ["source"] (defScope (top 74)) := ⟨rfl, rfl, rfl, by decide +kernel, rfl, by decide +kernel, by decide +kernel⟩
def f_const (K : PySem.W.Frag) (x : V) (H : Hp) (Q : VK) : Prop := ∃ sa ca, x = .ref sa ∧ SrcAt H sa ca ∧ ∀ v c H', Drw sa ca H H' → RowAt K H' v ⟨"worth", some c⟩ → constB c = true → Q v H'
theorem ok_const (M : Md w K mg) (C__law_draw : Cal P w K mg base 2 "_law_draw" ["source", "many"] (s2 f_draw)) : Cal P w K mg base 3 "_law_constant" ["source"] (s1 (f_const K)) := by
  obtain ⟨fd, F⟩ := M.fd__law_constant
  refine ⟨⟨_, fd, fn_of_d F sc__law_constant s1_len (fun cdv A outer s H vs Q E hr h => ?_), M.gl__law_constant, F.kp, F.bindsN fun _ _ _ _ _ _ us hl => match us, hl with | [_], _ => rfl⟩⟩
  have hu := hu_of hr
  have nd := sc__law_constant.nd
  obtain ⟨_, rfl, sa, ca, rfl, hs, q⟩ := h
  have out : ∀ H1 c T, Drw sa ca H H1 → H1 T = none → constB c = true → Q (.ref T) (upd H1 T (.tup [.str "worth", c])) := fun H1 c T D1 hT hc =>
    q _ c _ (D1.more (Same.new hT)) ⟨T, rfl, SqT.of upd_same⟩ hc
  have cint : ∀ i : Int, -999 ≤ i → i ≤ 999 → constB (.int i) = true := fun i h1 h2 => by
    have h3 : intIn (.int i) (-999) 999 = true := by
      show (decide (-999 ≤ i) && decide (i ≤ 999)) = true
      rw [decide_eq_true h1, decide_eq_true h2]
      rfl
    unfold constB
    rw [h3]
    simp
  refine ⟨_, (pss_cons (ps_set (i := 1) nd rfl (Or.inl rfl) (pe_cl C__law_draw (hr.mono (by first | decide | omega)) rfl (pa_cons (pv 0) (pa_cons pe_int pa_nil)))) (pss_cons (ps_if (pt_cmpR op_eq (pv 1) pe_int (nomark _)) (pss_one (ps_ret (pe_tup (pa_cons pe_str (pa_cons (pe_op op_sub (pe_cl C__law_draw (hr.mono (by first | decide | omega)) rfl (pa_cons (pv 0) (pa_cons pe_int pa_nil))) pe_int) pa_nil))))) pss_nil) (pss_one (ps_ret (pe_ifExp (pt_cmpR op_lt (pv 1) pe_int (nomark _)) (pe_tup (pa_cons pe_str (pa_cons (pe_ix (ix_tupK (K := K) rfl) (pe_tup (pa_cons pe_str (pa_cons pe_str (pa_cons pe_non pa_nil)))) (pe_op op_sub (pv 1) pe_int) (fun _ _ => rfl)) pa_nil))) (pe_tup (pa_cons pe_str (pa_cons (pe_op op_sub (pe_cl C__law_draw (hr.mono (by first | decide | omega)) rfl (pa_cons (pv 0) (pa_cons pe_int pa_nil))) pe_int) pa_nil)))))))), ?_⟩
  walk_at "rd"; walk_at "rc"
  refine ⟨sa, ca, 8, rfl, hs, rfl, by decide, by decide, fun k H1 hk0 hk D1 => ?_⟩
  walk_at "rd"
  refine a_ite (fun e1 => ?_) (fun e1 => ?_)
  · walk_at "rd"; walk_at "rc"
    refine ⟨sa, ca, 1999, rfl, D1.src, rfl, by decide, by decide, fun i H2 hi0 hi D2 => ?_⟩
    walk_at "rd"
    exact ⟨sz2, fun T hT => out _ _ _ (D1.trans D2) hT (cint _ (by omega) (by omega))⟩
  · walk_at "rd"
    refine a_ite (fun e2 => ?_) (fun e2 => ?_)
    · walk_at "rd"
      refine ⟨by decide +kernel, fun T hT => ?_⟩
      walk_at "rd"
      have g1 := Same.new (o := .tup [.str "ab", .str "", .non]) hT
      obtain ⟨c, hc, hcc⟩ : ∃ c, ([V.str "ab", .str "", .non] : List V)[(k - 1).toNat]? = some c ∧ constB c = true := by
        have : k = 1 ∨ k = 2 ∨ k = 3 := by omega
        rcases this with rfl | rfl | rfl
        · exact ⟨_, rfl, by decide +kernel⟩
        · exact ⟨_, rfl, by decide +kernel⟩
        · exact ⟨_, rfl, by decide +kernel⟩
      refine b_ixTn (SqT.of upd_same) (by omega) hc ?_
      walk_at "rd"
      exact ⟨sz2, fun T2 hT2 => out _ _ _ (D1.more g1) hT2 hcc⟩
    · walk_at "rd"; walk_at "rc"
      refine ⟨sa, ca, 6, rfl, D1.src, rfl, by decide, by decide, fun i H2 hi0 hi D2 => ?_⟩
      walk_at "rd"
      exact ⟨sz2, fun T hT => out _ _ _ (D1.trans D2) hT (cint _ (by omega) (by omega))⟩
theorem okPre_worth {c : V} (h : constB c = true) : okPre ⟨"worth", some c⟩ := .inr ⟨(by decide +kernel : plB "worth" = false), fun n => h⟩
def deedW : List Str := ["+", "-", "*", "/", "mod", ".", "<", "<=", "=", "<>", "is", "isnt", "put", "take", "size", "at", "place", "say", "say", "here", "move", "tab", "many", "match", "anew"]
theorem okPre_deed {z : Str} (h : z ∈ deedW) : okPre ⟨"deed", some (.str z)⟩ := .inr ⟨(by decide +kernel : plB "deed" = false), fun n => (show ∀ y ∈ deedW, keyB kvs_DEED_COUNTS (.str y) = true by decide +kernel) z h⟩
abbrev N__law_deed : List Str := ["source", "word", "row", "turn"]
abbrev S__law_deed : Scope := defScope (top 75)
theorem sc__law_deed : FnScope N__law_deed ["source"] (defScope (top 75)) := ⟨rfl, rfl, rfl, by decide +kernel, rfl, by decide +kernel, by decide +kernel⟩
def f_deed (K : PySem.W.Frag) (x : V) (H : Hp) (Q : VK) : Prop := ∃ sa ca, x = .ref sa ∧ SrcAt H sa ca ∧ ∀ p rs H', Drw sa ca H H' → RowsAt K sa ca H' p rs → 1 ≤ rs.length → rs.length ≤ 5 → (∀ r ∈ rs, okPre r) → Q (.ref p) H'
theorem ok_deed (M : Md w K mg) (C__law_draw : Cal P w K mg base 2 "_law_draw" ["source", "many"] (s2 f_draw)) (C__law_one : Cal P w K mg base 3 "_law_one" ["source", "words"] (s2 (f_one K))) (C__law_many : Cal P w K mg base 1 "_law_many" ["row"] (s1 (f_many K)))
    (C__law_constant : Cal P w K mg base 3 "_law_constant" ["source"] (s1 (f_const K))) : Cal P w K mg base 4 "_law_deed" ["source"] (s1 (f_deed K)) := by
  obtain ⟨fd, F⟩ := M.fd__law_deed
  refine ⟨⟨_, fd, fn_of_d F sc__law_deed s1_len (fun cdv A outer s H vs Q E hr h => ?_), M.gl__law_deed, F.kp, F.bindsN fun _ _ _ _ _ _ us hl => match us, hl with | [_], _ => rfl⟩⟩
  have hu := hu_of hr
  have nd := sc__law_deed.nd
  obtain ⟨_, rfl, sa, ca, rfl, hs, q⟩ := h
  refine ⟨_, (pss_cons (ps_set (i := 1) nd rfl (Or.inl rfl) (pe_cl C__law_one (hr.mono (by first | decide | omega)) rfl (pa_cons (pv 0) (pa_cons (pe_tup (pa_cons pe_str (pa_cons pe_str (pa_cons pe_str (pa_cons pe_str (pa_cons pe_str (pa_cons pe_str (pa_cons pe_str (pa_cons pe_str (pa_cons pe_str (pa_cons pe_str (pa_cons pe_str (pa_cons pe_str (pa_cons pe_str (pa_cons pe_str (pa_cons pe_str (pa_cons pe_str (pa_cons pe_str (pa_cons pe_str (pa_cons pe_str (pa_cons pe_str (pa_cons pe_str (pa_cons pe_str (pa_cons pe_str (pa_cons pe_str (pa_cons pe_str pa_nil)))))))))))))))))))))))))) pa_nil)))) (pss_cons (ps_set (i := 2) nd rfl (Or.inl rfl) (pe_tup (pa_cons pe_str (pa_cons (pv 1) pa_nil)))) (pss_one (ps_ret (pe_op op_cat (pe_lc (own := [("turn", 3)]) (g := gName 3) (tt := tYes) rfl nd (pi_range1 rfl M.fr_range (pa_cons (pe_ifExp (pt_cmpR op_gt (pe_cl C__law_draw (hr.mono (by first | decide | omega)) rfl (pa_cons (pv 0) (pa_cons pe_int pa_nil))) pe_int (nomark _)) (pe_cl C__law_many (hr.mono (by first | decide | omega)) rfl (pa_cons (pv 2) pa_nil)) pe_int) pa_nil)) (blkOk_by (own := [("turn", 3)]) (N := N__law_deed) (sc := S__law_deed) (by decide +kernel)) (fun _ _ _ _ _ => (pg_name (i := 3) nd rfl (Or.inl rfl))) (fun _ _ _ _ _ => pts_nil) (fun _ _ _ _ _ => (pe_cl C__law_constant (hr.mono (by first | decide | omega)) rfl (pa_cons (pv 0) pa_nil)))) (pe_lst (pa_cons (pv 2) pa_nil))))))), ?_⟩
  walk_at "rd"
  refine ⟨by decide +kernel, fun T hT => ?_⟩
  have g0 := Same.new (o := .tup (deedW.map V.str)) hT
  have D0 := Drw.of hs g0
  walk_at "rd"; walk_at "rc"
  refine ⟨sa, ca, T, deedW, rfl, D0.src, rfl, SqT.of upd_same, by decide, by decide, fun z H1 hz D1 => ?_⟩
  walk_at "rd"
  refine ⟨sz2, fun R hR => ?_⟩
  have D2 := (D0.trans D1).more (Same.new (o := .tup [.str "deed", .str z]) hR)
  have hR2 : SqT K (upd H1 R (.tup [.str "deed", .str z])) R [.str "deed", .str z] := SqT.of upd_same
  generalize upd H1 R (.tup [.str "deed", .str z]) = H2 at D2 hR2 ⊢
  walk_at "rd"
  refine a_lcrng1 ?_
  with_reducible refine l_cut (fun vs H' => Drw sa ca H2 H' ∧ ∃ k : Nat, vs = [.int k] ∧ k ≤ 3) ?_ ?_
  · intro R' hR'
    walk_at "rd"; walk_at "rc"
    refine ⟨sa, ca, 4, rfl, D2.src, rfl, by decide, by decide, fun i H3 _ _ D3 => ?_⟩
    walk_at "rd"
    refine a_ite (fun e1 => ?_) (fun e1 => ?_)
    · walk_at "rd"; walk_at "rc"
      refine ⟨R, z, rfl, (D3.tup D2.src).sq hR2, fun k H4 hk g4 => ?_⟩
      walk_at "rd"
      exact hR' _ _ ⟨D3.more g4, k, rfl, hk⟩
    · walk_at "rd"
      exact hR' _ _ ⟨D3, 0, rfl, by omega⟩
  rintro vs H3 ⟨D3, k, rfl, hk⟩
  refine ⟨_, rfl, by omega, by omega, ?_⟩
  rw [Int.toNat_natCast]
  have D23 := D2.trans D3
  refine fun D hD => lc_it walk_range (fun i H4 => Drw sa ca H3 H4 ∧ ∃ acc rs, H4 D = some (.lst acc) ∧ Rows K H4 acc rs ∧ rs.length = i ∧ ∀ r ∈ rs, okPre r) ?_ (fun _ _ _ _ => trivial) ?_ ?_
  · exact ⟨Drw.of D23.src (Same.new hD), [], [], upd_same, .nil, rfl, fun r hr => by cases hr⟩
  · rintro i x H4 H4' hi ⟨D4, acc, rs, hacc, hra, hrl, hok⟩ hy
    obtain ⟨rfl, rfl⟩ := hy
    walk_at "rd"
    refine ⟨rfl, ?_⟩
    walk_at "rd"; walk_at "rc"
    refine ⟨sa, ca, rfl, D4.src, fun v c H5 D5 hv hc => ?_⟩
    obtain ⟨nDs, nDc⟩ := D23.src.ne hD
    have h5 := D5.keep _ _ hacc nDs nDc
    have hal := hra.len
    have st := SameT.lst (o := .lst (acc ++ [v])) h5
    refine ⟨acc, h5, small1000 (by omega), ?_, acc ++ [v], rs ++ [⟨"worth", some c⟩], upd_same, Paired_app (Rows.tup ((D5.tup D4.src).trans st) hra) (.cons (sameT_row st hv) .nil), by rw [List.length_append, hrl]; rfl, fun r hr => ?_⟩
    · exact (D4.trans D5).mut hD nDs nDc
    · rcases List.mem_append.mp hr with hr | hr
      · exact hok r hr
      · rw [List.mem_singleton.mp hr]
        exact okPre_worth hc
  rintro H4 ⟨D4, acc, rs, hacc, hra, hrl, hok⟩
  walk_at "rd"
  refine ⟨sz1, fun E1 hE1 => ?_⟩
  have hal := hra.len
  have g5 := Same.new (o := .lst [.ref R]) hE1
  have nDE := ne_of_none hacc hE1
  refine ⟨D, E1, acc, _, rfl, rfl, by rw [upd_ne nDE]; exact hacc, upd_same, sz (show acc.length + 1 ≤ 100000 by omega), fun p hp => ?_⟩
  have D5 := (D23.trans D4).more (Same.more (o := .lst (acc ++ [.ref R])) g5 hp)
  have D6 := (D4.more (Same.more (o := .lst (acc ++ [.ref R])) g5 hp)).tup D23.src
  have hne := D5.src.ne (p := p)
  have hps := (D4.more g5).src.ne hp
  refine q p (rs ++ [⟨"deed", some (.str z)⟩]) _ D5 ⟨⟨acc ++ [.ref R], upd_same, ?_⟩, hps.1, hps.2⟩ (by rw [List.length_append, List.length_singleton]; omega) (by rw [List.length_append, List.length_singleton]; omega) fun r hr => ?_
  · exact Paired_app (Rows.mono (Same.more (o := .lst (acc ++ [.ref R])) g5 hp) hra) (.cons ⟨R, rfl, D6.sq ((D3.tup D2.src).sq hR2)⟩ .nil)
  · rcases List.mem_append.mp hr with hr | hr
    · exact hok r hr
    · rw [List.mem_singleton.mp hr]
      exact okPre_deed hz
end
end T51

set_option Elab.async false
set_option linter.all false
set_option maxRecDepth 100000
set_option maxHeartbeats 4000000
namespace T51
open PySem PySem.Spec PyProof.Rows L2
local macro_rules | `(tactic| walk_at "rd1") => `(tactic| with_reducible first
  | refine a_seq ?_ | refine a_var rfl ?_ | refine a_c ?_ | refine a_op ?_ | refine a_cons ?_ | refine a_nil ?_ | refine a_cb ?_ | refine a_asg ?_ | refine a_gname ?_ | refine a_ret ?_
  | refine a_if ?_ | refine a_test ?_ | refine a_tB ?_ | refine a_blP ?_ | refine a_and ?_ | refine a_or ?_ | refine a_not ?_ | refine a_andV ?_ | refine a_orV ?_ | refine a_notV ?_ | refine a_ifE ?_
  | refine a_rI0 ?_ | refine a_eqS ?_ | refine a_eqI ?_ | refine a_neS ?_ | refine a_neI ?_ | refine a_call ?_ | refine a_tup ?_ | refine a_lst ?_ | refine a_chain ?_ | refine a_iteT ?_ | refine a_iteF ?_ | refine a_iteNT ?_ | refine a_iteNF ?_
  | refine a_drop ?_ | refine a_next ?_ | refine a_cont ?_ | refine a_break ?_ | refine a_retN ?_ | refine a_ipI ?_ | refine a_aug rfl ?_ | refine a_bm ?_ | refine a_bm0 ?_ | refine b_ord ?_ | refine b_int ?_ | refine b_isN ?_ | refine b_notN ?_ | refine a_un ?_ | refine b_rU ?_ | refine a_fld ?_ | refine a_sfld ?_ | refine a_meth ?_ | refine a_make ?_
  | refine a_dget ?_ | refine a_din ?_ | refine a_dnin ?_ | refine a_dput ?_ | refine a_yes ?_ | refine a_gsub ?_)
local macro_rules | `(tactic| walk_at "is") => `(tactic| with_reducible first
  | refine a_isi_int_int ?_ | refine a_isi_int_bool ?_ | refine a_isi_int_str ?_ | refine a_isi_int_list ?_ | refine a_isi_int_tuple ?_ | refine a_isi_int_dict ?_
  | refine a_isi_bl_int ?_ | refine a_isi_bl_bool ?_ | refine a_isi_bl_str ?_ | refine a_isi_bl_list ?_ | refine a_isi_bl_tuple ?_ | refine a_isi_bl_dict ?_
  | refine a_isi_str_int ?_ | refine a_isi_str_bool ?_ | refine a_isi_str_str ?_ | refine a_isi_str_list ?_ | refine a_isi_str_tuple ?_ | refine a_isi_str_dict ?_
  | refine a_isi_non_int ?_ | refine a_isi_non_bool ?_ | refine a_isi_non_str ?_ | refine a_isi_non_list ?_ | refine a_isi_non_tuple ?_ | refine a_isi_non_dict ?_)
local macro_rules | `(tactic| walk_at "rd") => `(tactic| repeat (walk_at "rd1"))
local macro_rules | `(tactic| walk_at "hp") => `(tactic| first
  | with_reducible assumption
  | with_reducible exact upd_same
  | (with_reducible refine SqL.of ?_; walk_at "hp")
  | (with_reducible refine SqT.of ?_; walk_at "hp")
  | (with_reducible refine Eq.trans (upd_ne ?_) ?_; rotate_left; focus (walk_at "hp"); walk_at "ne")
  | (with_reducible refine (by with_reducible assumption : Same _ _) _ _ ?_; walk_at "hp"))
local macro_rules | `(tactic| walk_at "ne") => `(tactic| first
  | with_reducible assumption
  | with_reducible exact Ne.symm (by with_reducible assumption)
  | (with_reducible refine ne_of_none ?_ (by with_reducible assumption); walk_at "hp")
  | (with_reducible refine Ne.symm (ne_of_none ?_ (by with_reducible assumption)); walk_at "hp"))
local macro_rules | `(tactic| walk_at "rc") => `(tactic| with_reducible first
  | refine a_s1 ?_ | refine a_s2 ?_ | refine a_s3 ?_ | refine a_s4 ?_ | refine a_s0 ?_ | refine a_m1 ?_ | refine a_m2 ?_ | refine a_m3 ?_ | refine a_m4 ?_)
local macro_rules | `(tactic| walk_at "rx1") => `(tactic| with_reducible first
  | refine a_var rfl ?_ | refine a_c ?_ | refine a_op ?_ | refine a_cons ?_ | refine a_nil ?_ | refine a_cb ?_ | refine a_asg ?_ | refine a_gname ?_ | refine a_ret ?_
  | refine a_if ?_ | refine a_test ?_ | refine a_tB ?_ | refine a_blP ?_ | refine a_and ?_ | refine a_or ?_ | refine a_not ?_ | refine a_andV ?_ | refine a_orV ?_ | refine a_notV ?_ | refine a_ifE ?_
  | refine a_rI0 ?_ | refine a_eqS ?_ | refine a_eqI ?_ | refine a_neS ?_ | refine a_neI ?_ | refine a_call ?_ | refine a_tup ?_ | refine a_lst ?_ | refine a_chain ?_ | refine a_iteT ?_ | refine a_iteF ?_ | refine a_iteNT ?_ | refine a_iteNF ?_
  | refine a_drop ?_ | refine a_next ?_ | refine a_cont ?_ | refine a_break ?_ | refine a_retN ?_ | refine a_ipI ?_ | refine a_aug rfl ?_ | refine a_bm ?_ | refine a_bm0 ?_ | refine b_ord ?_ | refine b_int ?_ | refine b_isN ?_ | refine b_notN ?_ | refine a_un ?_ | refine b_rU ?_ | refine a_fld ?_ | refine a_sfld ?_ | refine a_meth ?_ | refine a_make ?_
  | refine a_dget ?_ | refine a_din ?_ | refine a_dnin ?_ | refine a_dput ?_ | refine a_yes ?_ | refine a_gsub ?_)
local macro_rules | `(tactic| walk_at "rx") => `(tactic| repeat (walk_at "rx1"))
section
variable {P : Program} {w : World} {K : PySem.W.Frag} {mg : Str → Option Value} {base : Heap}
/-! ### a chunk of rows -/
structure Ctx (K : PySem.W.Frag) (sa ca : Addr) (vw vn : V) (H : Hp) : Prop where
  src : SrcAt H sa ca
  wr : ∃ c, RowAt K H vw ⟨"worth", some c⟩ ∧ constB c = true
  nr : ∃ r, RowAt K H vn r ∧ okPre r
theorem Ctx.mono {sa ca : Addr} {vw vn : V} {H H' : Hp} (h : Ctx K sa ca vw vn H) (e : Drw sa ca H H') : Ctx K sa ca vw vn H' := by
  obtain ⟨c, h1, h2⟩ := h.wr
  obtain ⟨r, h3, h4⟩ := h.nr
  exact ⟨e.src, ⟨c, row_mono h1 h.src e, h2⟩, r, row_mono h3 h.src e, h4⟩
def ChunkAt (K : PySem.W.Frag) (sa ca : Addr) (H : Hp) (v : V) : Prop := ∃ p rs, v = .ref p ∧ RowsAt K sa ca H p rs ∧ 1 ≤ rs.length ∧ rs.length ≤ 5 ∧ ∀ r ∈ rs, okPre r
theorem chunk_mono {sa ca : Addr} {H H' : Hp} {v : V} (h : ChunkAt K sa ca H v) (s : SrcAt H sa ca) (e : Drw sa ca H H') : ChunkAt K sa ca H' v := by
  obtain ⟨p, rs, h1, h2, h3⟩ := h
  exact ⟨p, rs, h1, h2.mono s e, h3⟩
theorem okPre_c {r : Ins} (h : okIns 0 r = true) (p : plB r.w = false) : okPre r := .inr ⟨p, fun n => ok_other h p⟩
/-- the state in which the chunk is made -/
def chS (sa : Addr) (k : Int) (vw : V) (g : Nat) (vn : V) (x y : Option V) : L2.St := [some (.ref sa), some (.int k), some vw, some (.int (g : Nat)), some vn, x, y]
structure MkV (K : PySem.W.Frag) (sa ca : Addr) (k : Int) (vw : V) (g : Nat) (vn : V) (t : TE) (Φ : V → Prop) : Prop where
  run : ∀ u1 u2 H Q, Ctx K sa ca vw vn H → (∀ x H', Drw sa ca H H' → Φ x → Q x H') → t (chS sa k vw g vn u1 u2) H Q
structure MkR (K : PySem.W.Frag) (sa ca : Addr) (k : Int) (vw : V) (g : Nat) (vn : V) (t : TE) : Prop where
  run : ∀ u1 u2 H Q, Ctx K sa ca vw vn H → (∀ x r H', Drw sa ca H H' → RowAt K H' x r → okPre r → Q x H') → t (chS sa k vw g vn u1 u2) H Q
structure MkRs (K : PySem.W.Frag) (sa ca : Addr) (k : Int) (vw : V) (g : Nat) (vn : V) (n : Nat) (t : TA) : Prop where
  run : ∀ u1 u2 H Q, Ctx K sa ca vw vn H → (∀ xs rs H', Drw sa ca H H' → Rows K H' xs rs → rs.length = n → (∀ r ∈ rs, okPre r) → Q xs H') → t (chS sa k vw g vn u1 u2) H Q
structure MkL (K : PySem.W.Frag) (sa ca : Addr) (k : Int) (vw : V) (g : Nat) (vn : V) (t : TE) : Prop where
  run : ∀ u1 u2 H Q, Ctx K sa ca vw vn H → (∀ x H', Drw sa ca H H' → ChunkAt K sa ca H' x → Q x H') → t (chS sa k vw g vn u1 u2) H Q
structure MkLs (K : PySem.W.Frag) (sa ca : Addr) (k : Int) (vw : V) (g : Nat) (vn : V) (n : Nat) (t : TA) : Prop where
  run : ∀ u1 u2 H Q, Ctx K sa ca vw vn H → (∀ xs H', Drw sa ca H H' → xs.length = n → (∀ x ∈ xs, ChunkAt K sa ca H' x) → Q xs H') → t (chS sa k vw g vn u1 u2) H Q
section
variable {sa ca : Addr} {k : Int} {vw vn : V} {g : Nat}
theorem mkV_c {c : V} : MkV K sa ca k vw g vn (tC c) (· ∈ [c]) := ⟨fun _ _ H Q c q => q _ _ (Drw.refl c.src) (List.mem_singleton.mpr rfl)⟩
theorem mkV_goal : MkV K sa ca k vw g vn (tVar 3) (∃ n : Nat, · = .int (n : Nat)) := ⟨fun _ _ H Q c q => ⟨_, rfl, q _ _ (Drw.refl c.src) ⟨g, rfl⟩⟩⟩
theorem mkV_q {j : Int} {L : List V} (hg : g < 128) (hj : 0 < j ∧ j < 1073741824) (hL : ∀ n : Fin 128, V.int (((n : Nat) : Int) / j) ∈ L) : MkV K sa ca k vw g vn (tOp (rI CDiv fun i j => V.int (i / j)) (tVar 3) (tC (.int j))) (· ∈ L) :=
  ⟨fun _ _ H Q c q => ⟨_, rfl, _, _, rfl, rfl, hj, q _ _ (Drw.refl c.src) (hL ⟨g, hg⟩)⟩⟩
theorem mkV_1q {j : Int} {L : List V} (hg : g < 128) (hj : 0 < j ∧ j < 1073741824) (hL : ∀ n : Fin 128, V.int (1 + ((n : Nat) : Int) / j) ∈ L) : MkV K sa ca k vw g vn (tOp (rI0 fun i j => V.int (i + j)) (tC (.int 1)) (tOp (rI CDiv fun i j => V.int (i / j)) (tVar 3) (tC (.int j)))) (· ∈ L) :=
  ⟨fun _ _ H Q c q => ⟨_, rfl, _, _, rfl, rfl, hj, _, _, rfl, rfl, q _ _ (Drw.refl c.src) (hL ⟨g, hg⟩)⟩⟩
theorem mkR_w : MkR K sa ca k vw g vn (tVar 2) := ⟨fun _ _ H Q c q => ⟨_, rfl, by
  obtain ⟨z, h1, h2⟩ := c.wr
  exact q _ _ _ (Drw.refl c.src) h1 (okPre_worth h2)⟩⟩
theorem mkR_n : MkR K sa ca k vw g vn (tVar 4) := ⟨fun _ _ H Q c q => ⟨_, rfl, by
  obtain ⟨z, h1, h2⟩ := c.nr
  exact q _ _ _ (Drw.refl c.src) h1 h2⟩⟩
theorem mkR_1 {z : Str} (h : okIns 0 ⟨z, none⟩ = true) (p : plB z = false) : MkR K sa ca k vw g vn (tTup (tCons (tC (.str z)) tNil)) := ⟨fun _ _ H Q c q => by
  walk_at "rd"
  exact ⟨sz1, fun T hT => q _ ⟨z, none⟩ _ (Drw.of c.src (Same.new hT)) ⟨T, rfl, SqT.of upd_same⟩ (okPre_c h p)⟩⟩
theorem mkR_2 {z : Str} {e : TE} {L : List V} (he : MkV K sa ca k vw g vn e (· ∈ L)) (h : ∀ x ∈ L, okIns 0 ⟨z, some x⟩ = true) (p : plB z = false) : MkR K sa ca k vw g vn (tTup (tCons (tC (.str z)) (tCons e tNil))) := ⟨fun _ _ H Q c q => by
  walk_at "rd"
  refine he.run _ _ H _ c fun x H1 D1 hx => ?_
  walk_at "rd"
  exact ⟨sz2, fun T hT => q _ ⟨z, some x⟩ _ (D1.more (Same.new hT)) ⟨T, rfl, SqT.of upd_same⟩ (okPre_c (h x hx) p)⟩⟩
theorem mkR_g {z : Str} (p : plB z = true) : MkR K sa ca k vw g vn (tTup (tCons (tC (.str z)) (tCons (tVar 3) tNil))) := ⟨fun _ _ H Q c q => by
  walk_at "rd"
  exact ⟨sz2, fun T hT => q _ ⟨z, some (.int g)⟩ _ (Drw.of c.src (Same.new hT)) ⟨T, rfl, SqT.of upd_same⟩ (.inl ⟨p, g, rfl⟩)⟩⟩
theorem mkV_one2 {a b : Str} : MkV K sa ca k vw g vn (tCall (s2 (f_one K)) [] E0 (tCons (tVar 0) (tCons (tTup (tCons (tC (.str a)) (tCons (tC (.str b)) tNil))) tNil))) (· ∈ [V.str a, .str b]) := ⟨fun _ _ H Q c q => by
  refine a_call ?_
  refine a_cons ⟨_, rfl, ?_⟩
  walk_at "rd"
  refine ⟨sz2, fun T hT => ?_⟩
  walk_at "rd"; walk_at "rc"
  have D0 := Drw.of c.src (Same.new (o := .tup [.str a, .str b]) hT)
  exact ⟨sa, ca, T, [a, b], rfl, D0.src, rfl, SqT.of upd_same, by simp, by simp, fun z H1 hz D1 => q _ _ (D0.trans D1) (by simpa using hz)⟩⟩
theorem mkV_one3 {a b d : Str} : MkV K sa ca k vw g vn (tCall (s2 (f_one K)) [] E0 (tCons (tVar 0) (tCons (tTup (tCons (tC (.str a)) (tCons (tC (.str b)) (tCons (tC (.str d)) tNil)))) tNil))) (· ∈ [V.str a, .str b, .str d]) := ⟨fun _ _ H Q c q => by
  refine a_call ?_
  refine a_cons ⟨_, rfl, ?_⟩
  walk_at "rd"
  refine ⟨sz3, fun T hT => ?_⟩
  walk_at "rd"; walk_at "rc"
  have D0 := Drw.of c.src (Same.new (o := .tup [.str a, .str b, .str d]) hT)
  exact ⟨sa, ca, T, [a, b, d], rfl, D0.src, rfl, SqT.of upd_same, by simp, by simp, fun z H1 hz D1 => q _ _ (D0.trans D1) (by simpa using hz)⟩⟩
theorem mkRs_nil : MkRs K sa ca k vw g vn 0 tNil := ⟨fun _ _ H Q c q => q [] [] _ (Drw.refl c.src) .nil rfl fun r hr => by cases hr⟩
theorem mkRs_cons {n : Nat} {t : TE} {ts : TA} (h : MkR K sa ca k vw g vn t) (hs : MkRs K sa ca k vw g vn n ts) : MkRs K sa ca k vw g vn (n + 1) (tCons t ts) := ⟨fun _ _ H Q c q => by
  refine a_cons (h.run _ _ H _ c fun x r H1 D1 hx hr => ?_)
  refine hs.run _ _ H1 _ (c.mono D1) fun xs rs H2 D2 hxs hl hrs => ?_
  refine q _ (r :: rs) _ (D1.trans D2) (.cons (row_mono hx D1.src D2) hxs) (by rw [List.length_cons, hl]) fun y hy => ?_
  rcases List.mem_cons.mp hy with rfl | hy
  · exact hr
  · exact hrs y hy⟩
theorem mkL {n : Nat} {ts : TA} (hs : MkRs K sa ca k vw g vn n ts) (h1 : 1 ≤ n) (h5 : n ≤ 5) : MkL K sa ca k vw g vn (tLst ts) := ⟨fun _ _ H Q c q => by
  refine a_lst (hs.run _ _ H _ c fun xs rs H2 D2 hxs hl hrs => ?_)
  have hlen := hxs.len
  refine ⟨sz (show xs.length ≤ 100000 by omega), fun p hp => q _ _ (D2.more (Same.new hp)) ⟨p, rs, rfl, ⟨⟨xs, upd_same, Rows.mono (Same.new hp) hxs⟩, (D2.src.ne hp).1, (D2.src.ne hp).2⟩, by omega, by omega, hrs⟩⟩⟩
theorem mkL1 {a : TE} (ha : MkR K sa ca k vw g vn a) : MkL K sa ca k vw g vn (tLst (tCons a tNil)) := mkL (mkRs_cons ha mkRs_nil) (by decide) (by decide)
theorem mkL2 {a b : TE} (ha : MkR K sa ca k vw g vn a) (hb : MkR K sa ca k vw g vn b) : MkL K sa ca k vw g vn (tLst (tCons a (tCons b tNil))) := mkL (mkRs_cons ha (mkRs_cons hb mkRs_nil)) (by decide) (by decide)
theorem mkL3 {a b c : TE} (ha : MkR K sa ca k vw g vn a) (hb : MkR K sa ca k vw g vn b) (hc : MkR K sa ca k vw g vn c) : MkL K sa ca k vw g vn (tLst (tCons a (tCons b (tCons c tNil)))) := mkL (mkRs_cons ha (mkRs_cons hb (mkRs_cons hc mkRs_nil))) (by decide) (by decide)
theorem mkL4 {a b c d : TE} (ha : MkR K sa ca k vw g vn a) (hb : MkR K sa ca k vw g vn b) (hc : MkR K sa ca k vw g vn c) (hd : MkR K sa ca k vw g vn d) : MkL K sa ca k vw g vn (tLst (tCons a (tCons b (tCons c (tCons d tNil))))) := mkL (mkRs_cons ha (mkRs_cons hb (mkRs_cons hc (mkRs_cons hd mkRs_nil)))) (by decide) (by decide)
theorem mkLs_nil : MkLs K sa ca k vw g vn 0 tNil := ⟨fun _ _ H Q c q => q [] _ (Drw.refl c.src) rfl fun r hr => by cases hr⟩
theorem mkLs_cons {n : Nat} {t : TE} {ts : TA} (h : MkL K sa ca k vw g vn t) (hs : MkLs K sa ca k vw g vn n ts) : MkLs K sa ca k vw g vn (n + 1) (tCons t ts) := ⟨fun _ _ H Q c q => by
  refine a_cons (h.run _ _ H _ c fun x H1 D1 hx => ?_)
  refine hs.run _ _ H1 _ (c.mono D1) fun xs H2 D2 hl hxs => ?_
  refine q _ _ (D1.trans D2) (by rw [List.length_cons, hl]) fun y hy => ?_
  rcases List.mem_cons.mp hy with rfl | hy
  · exact chunk_mono hx D1.src D2
  · exact hxs y hy⟩
end
abbrev N__law_chunk : List Str := ["source", "k", "worth", "goal", "name", "rows", "more"]
abbrev S__law_chunk : Scope := defScope (top 76)
theorem sc__law_chunk : FnScope N__law_chunk ["source"] (defScope (top 76)) := ⟨rfl, rfl, rfl, by decide +kernel, rfl, by decide +kernel, by decide +kernel⟩
def f_chunk (K : PySem.W.Frag) (x : V) (H : Hp) (Q : VK) : Prop := ∃ sa ca, x = .ref sa ∧ SrcAt H sa ca ∧ ∀ p rs H', Drw sa ca H H' → RowsAt K sa ca H' p rs → 1 ≤ rs.length → rs.length ≤ 10 → (∀ r ∈ rs, okPre r) → Q (.ref p) H'
theorem ok_chunk (M : Md w K mg) (C__law_draw : Cal P w K mg base 2 "_law_draw" ["source", "many"] (s2 f_draw)) (C__law_one : Cal P w K mg base 3 "_law_one" ["source", "words"] (s2 (f_one K))) (C__law_constant : Cal P w K mg base 3 "_law_constant" ["source"] (s1 (f_const K)))
    (C__law_deed : Cal P w K mg base 4 "_law_deed" ["source"] (s1 (f_deed K))) : Cal P w K mg base 5 "_law_chunk" ["source"] (s1 (f_chunk K)) := by
  obtain ⟨fd, F⟩ := M.fd__law_chunk
  refine ⟨⟨_, fd, fn_of_d F sc__law_chunk s1_len (fun cdv A outer s H vs Q E hr h => ?_), M.gl__law_chunk, F.kp, F.bindsN fun _ _ _ _ _ _ us hl => match us, hl with | [_], _ => rfl⟩⟩
  have hu := hu_of hr
  have nd := sc__law_chunk.nd
  obtain ⟨_, rfl, sa, ca, rfl, hs, q⟩ := h
  refine ⟨_, (pss_cons (ps_set (i := 1) nd rfl (Or.inl rfl) (pe_cl C__law_draw (hr.mono (by first | decide | omega)) rfl (pa_cons (pv 0) (pa_cons pe_int pa_nil)))) (pss_cons (ps_set (i := 2) nd rfl (Or.inl rfl) (pe_cl C__law_constant (hr.mono (by first | decide | omega)) rfl (pa_cons (pv 0) pa_nil))) (pss_cons (ps_set (i := 3) nd rfl (Or.inl rfl) (pe_cl C__law_draw (hr.mono (by first | decide | omega)) rfl (pa_cons (pv 0) (pa_cons pe_int pa_nil)))) (pss_cons (ps_set (i := 4) nd rfl (Or.inl rfl) (pe_tup (pa_cons (pe_ifExp (pt_cmpR op_eq (pe_op op_mod (pe_callTy call_intN rfl M.fr_int (by decide +kernel) (pa_cons (pv 3) pa_nil)) pe_int) pe_int (nomark _)) pe_str pe_str) (pa_cons (pe_cl C__law_one (hr.mono (by first | decide | omega)) rfl (pa_cons (pv 0) (pa_cons (pe_tup (pa_cons pe_str (pa_cons pe_str pa_nil))) pa_nil))) pa_nil)))) (pss_cons (ps_set (i := 5) nd rfl (Or.inl rfl) (pe_ix (ix_listK (K := K) rfl) (pe_lst (pa_cons (pe_lst (pa_cons (pv 2) pa_nil)) (pa_cons (pe_lst (pa_cons (pe_tup (pa_cons pe_str (pa_cons (pe_cl C__law_one (hr.mono (by first | decide | omega)) rfl (pa_cons (pv 0) (pa_cons (pe_tup (pa_cons pe_str (pa_cons pe_str (pa_cons pe_str pa_nil)))) pa_nil))) pa_nil))) pa_nil)) (pa_cons (pe_lst (pa_cons (pv 2) (pa_cons (pv 4) pa_nil))) (pa_cons (pe_lst (pa_cons (pv 2) (pa_cons (pv 4) (pa_cons (pe_tup (pa_cons pe_str pa_nil)) (pa_cons (pe_tup (pa_cons pe_str (pa_cons pe_str pa_nil))) pa_nil))))) (pa_cons (pe_lst (pa_cons (pv 2) (pa_cons (pe_tup (pa_cons pe_str (pa_cons pe_str pa_nil))) (pa_cons (pe_tup (pa_cons pe_str pa_nil)) (pa_cons (pe_tup (pa_cons pe_str (pa_cons pe_str pa_nil))) pa_nil))))) (pa_cons (pe_lst (pa_cons (pe_tup (pa_cons pe_str pa_nil)) pa_nil)) (pa_cons (pe_lst (pa_cons (pv 2) (pa_cons (pe_tup (pa_cons pe_str pa_nil)) pa_nil))) (pa_cons (pe_lst (pa_cons (pe_tup (pa_cons pe_str pa_nil)) pa_nil)) (pa_cons (pe_lst (pa_cons (pe_tup (pa_cons pe_str pa_nil)) pa_nil)) (pa_cons (pe_lst (pa_cons (pe_tup (pa_cons pe_str pa_nil)) (pa_cons (pv 2) (pa_cons (pv 4) (pa_cons (pe_tup (pa_cons pe_str pa_nil)) pa_nil))))) (pa_cons (pe_lst (pa_cons (pe_tup (pa_cons pe_str pa_nil)) (pa_cons (pe_tup (pa_cons pe_str (pa_cons (pv 3) pa_nil))) (pa_cons (pv 2) (pa_cons (pe_tup (pa_cons pe_str pa_nil)) pa_nil))))) (pa_cons (pe_lst (pa_cons (pe_tup (pa_cons pe_str pa_nil)) (pa_cons (pe_tup (pa_cons pe_str pa_nil)) pa_nil))) (pa_cons (pe_lst (pa_cons (pe_tup (pa_cons pe_str (pa_cons (pv 3) pa_nil))) pa_nil)) (pa_cons (pe_lst (pa_cons (pe_tup (pa_cons pe_str (pa_cons (pv 3) pa_nil))) (pa_cons (pe_tup (pa_cons pe_str pa_nil)) pa_nil))) (pa_cons (pe_lst (pa_cons (pe_tup (pa_cons pe_str pa_nil)) pa_nil)) (pa_cons (pe_lst (pa_cons (pe_tup (pa_cons pe_str (pa_cons (pv 3) pa_nil))) pa_nil)) (pa_cons (pe_lst (pa_cons (pe_tup (pa_cons pe_str (pa_cons (pv 3) pa_nil))) pa_nil)) (pa_cons (pe_lst (pa_cons (pe_tup (pa_cons pe_str pa_nil)) (pa_cons (pe_tup (pa_cons pe_str pa_nil)) (pa_cons (pv 2) (pa_cons (pe_tup (pa_cons pe_str (pa_cons (pe_op op_add pe_int (pe_op op_fdiv (pv 3) pe_int)) pa_nil))) pa_nil))))) (pa_cons (pe_lst (pa_cons (pe_tup (pa_cons pe_str pa_nil)) (pa_cons (pe_tup (pa_cons pe_str (pa_cons (pv 3) pa_nil))) (pa_cons (pv 2) (pa_cons (pe_tup (pa_cons pe_str pa_nil)) pa_nil))))) (pa_cons (pe_lst (pa_cons (pe_tup (pa_cons pe_str pa_nil)) pa_nil)) (pa_cons (pe_lst (pa_cons (pe_tup (pa_cons pe_str (pa_cons (pv 3) pa_nil))) pa_nil)) (pa_cons (pe_lst (pa_cons (pe_tup (pa_cons pe_str (pa_cons pe_int pa_nil))) (pa_cons (pe_tup (pa_cons pe_str (pa_cons (pe_op op_add pe_int (pe_op op_fdiv (pv 3) pe_int)) pa_nil))) (pa_cons (pe_tup (pa_cons pe_str (pa_cons pe_str pa_nil))) pa_nil)))) (pa_cons (pe_lst (pa_cons (pe_tup (pa_cons pe_str (pa_cons pe_str pa_nil))) (pa_cons (pe_tup (pa_cons pe_str (pa_cons (pe_cl C__law_one (hr.mono (by first | decide | omega)) rfl (pa_cons (pv 0) (pa_cons (pe_tup (pa_cons pe_str (pa_cons pe_str (pa_cons pe_str pa_nil)))) pa_nil))) pa_nil))) pa_nil))) (pa_cons (pe_lst (pa_cons (pv 2) (pa_cons (pe_tup (pa_cons pe_str pa_nil)) pa_nil))) (pa_cons (pe_lst (pa_cons (pv 2) (pa_cons (pe_tup (pa_cons pe_str pa_nil)) pa_nil))) (pa_cons (pe_lst (pa_cons (pe_tup (pa_cons pe_str pa_nil)) pa_nil)) (pa_cons (pe_lst (pa_cons (pe_tup (pa_cons pe_str (pa_cons pe_str pa_nil))) (pa_cons (pv 2) (pa_cons (pe_tup (pa_cons pe_str (pa_cons pe_int pa_nil))) pa_nil)))) (pa_cons (pe_lst (pa_cons (pe_tup (pa_cons pe_str (pa_cons (pv 3) pa_nil))) (pa_cons (pv 2) (pa_cons (pe_tup (pa_cons pe_str pa_nil)) pa_nil)))) (pa_cons (pe_lst (pa_cons (pe_tup (pa_cons pe_str pa_nil)) pa_nil)) (pa_cons (pe_lst (pa_cons (pe_tup (pa_cons pe_str (pa_cons pe_str pa_nil))) (pa_cons (pe_tup (pa_cons pe_str pa_nil)) pa_nil))) pa_nil))))))))))))))))))))))))))))))) (pv 1) (fun _ _ => rfl))) (pss_cons (ps_if (pt_cmpR op_eq (pe_cl C__law_draw (hr.mono (by first | decide | omega)) rfl (pa_cons (pv 0) (pa_cons pe_int pa_nil))) pe_int (nomark _)) (pss_one (ps_ret (pe_cl C__law_deed (hr.mono (by first | decide | omega)) rfl (pa_cons (pv 0) pa_nil)))) pss_nil) (pss_cons (ps_set (i := 6) nd rfl (Or.inl rfl) (pe_cl C__law_draw (hr.mono (by first | decide | omega)) rfl (pa_cons (pv 0) (pa_cons pe_int pa_nil)))) (pss_one (ps_ret (pe_ifExp (pt_cmpR op_lt (pv 6) pe_int (nomark _)) (pe_op op_cat (pv 5) (pe_ix (ix_listK (K := K) rfl) (pe_lst (pa_cons (pe_lst (pa_cons (pe_tup (pa_cons pe_str pa_nil)) pa_nil)) (pa_cons (pe_lst (pa_cons (pe_tup (pa_cons pe_str (pa_cons (pe_op op_fdiv (pv 3) pe_int) pa_nil))) pa_nil)) (pa_cons (pe_lst (pa_cons (pe_tup (pa_cons pe_str pa_nil)) pa_nil)) (pa_cons (pe_lst (pa_cons (pe_tup (pa_cons pe_str (pa_cons (pe_op op_fdiv (pv 3) pe_int) pa_nil))) pa_nil)) pa_nil))))) (pv 6) (fun _ _ => rfl))) (pv 5))))))))))), ?_⟩
  walk_at "rd"; walk_at "rc"
  refine ⟨sa, ca, 30, rfl, hs, rfl, by decide, by decide, fun k H1 hk0 hk D1 => ?_⟩
  walk_at "rd"; walk_at "rc"
  refine ⟨sa, ca, rfl, D1.src, fun vw cw H2 D2 hvw hcw => ?_⟩
  walk_at "rd"; walk_at "rc"
  refine ⟨sa, ca, 128, rfl, D2.src, rfl, by decide, by decide, fun gi H3 hg0 hg D3 => ?_⟩
  obtain ⟨g, rfl⟩ : ∃ g : Nat, gi = (g : Nat) := ⟨gi.toNat, by omega⟩
  have hg' : g < 128 := by omega
  walk_at "rx"
  with_reducible refine s_cut (fun σ' H' => Drw sa ca H3 H' ∧ ∃ vn r, σ' = chS sa k vw g vn none none ∧ RowAt K H' vn r ∧ okPre r) ?_ ?_
  · intro nx' hnx
    have done : ∀ (z : Str) (v : V) H4 T, Drw sa ca H3 H4 → (∃ c, v = .str c ∧ V.str c ∈ ([.str "a", .str "b"] : List V)) → (∀ x ∈ ([.str "a", .str "b"] : List V), okIns 0 ⟨z, some x⟩ = true) → plB z = false → H4 T = none → nx' (chS sa k vw g (.ref T) none none) (upd H4 T (.tup [.str z, v])) := fun z v H4 T D4 hv h1 h2 hT => by
      obtain ⟨c, rfl, hc⟩ := hv
      exact hnx _ _ ⟨D4.more (Same.new hT), .ref T, ⟨z, some (.str c)⟩, rfl, ⟨T, rfl, SqT.of upd_same⟩, okPre_c (h1 _ hc) h2⟩
    walk_at "rd"
    refine b_rI (by decide) ?_
    walk_at "rd"
    refine a_ite (fun e1 => ?_) (fun e1 => ?_)
    · walk_at "rd"
      refine ⟨sz2, fun T hT => ?_⟩
      walk_at "rd"; walk_at "rc"
      have D0 := Drw.of D3.src (Same.new (o := .tup [.str "a", .str "b"]) hT)
      refine ⟨sa, ca, T, ["a", "b"], rfl, D0.src, rfl, SqT.of upd_same, by simp, by simp, fun z H1 hz D1 => ?_⟩
      walk_at "rd"
      refine ⟨sz2, fun T2 hT2 => ?_⟩
      exact done "lend" (.str z) H1 T2 (D0.trans D1) ⟨z, rfl, by simpa using hz⟩ (by decide +kernel) (by decide +kernel) hT2
    · walk_at "rd"
      refine ⟨sz2, fun T hT => ?_⟩
      walk_at "rd"; walk_at "rc"
      have D0 := Drw.of D3.src (Same.new (o := .tup [.str "a", .str "b"]) hT)
      refine ⟨sa, ca, T, ["a", "b"], rfl, D0.src, rfl, SqT.of upd_same, by simp, by simp, fun z H1 hz D1 => ?_⟩
      walk_at "rd"
      refine ⟨sz2, fun T2 hT2 => ?_⟩
      exact done "give" (.str z) H1 T2 (D0.trans D1) ⟨z, rfl, by simpa using hz⟩ (by decide +kernel) (by decide +kernel) hT2
  rintro σ4 H4 ⟨D4, vn, rn, rfl, hvn, hrn⟩
  have D34 := (D1.trans D2).trans (D3.trans D4)
  have cx : Ctx K sa ca vw vn H4 := ⟨D4.src, ⟨cw, row_mono hvw D2.src (D3.trans D4), hcw⟩, rn, hvn, hrn⟩
  with_reducible refine s_cut (fun σ' H' => Drw sa ca H4 H' ∧ ∃ v, σ' = [some (.ref sa), some (.int k), some vw, some (.int (g : Nat)), some vn, some v, none] ∧ ChunkAt K sa ca H' v) ?_ ?_
  · intro nx' hnx
    with_reducible refine a_asg ?_
    with_reducible refine a_op ?_
    with_reducible refine a_lst ?_
    refine (?_ : MkLs K sa ca k vw g vn 30 _).run _ _ H4 _ cx fun xs H5 D5 hl hxs => ?_
    · repeat (first
      | exact mkLs_nil | refine mkLs_cons ?_ ?_ | refine mkL1 ?_ | refine mkL2 ?_ ?_ | refine mkL3 ?_ ?_ ?_ | refine mkL4 ?_ ?_ ?_ ?_ | exact mkR_w | exact mkR_n
      | exact mkR_1 (by decide +kernel) (by decide +kernel) | exact mkR_g (by decide +kernel) | exact mkR_2 mkV_c (by decide +kernel) (by decide +kernel) | exact mkR_2 mkV_one3 (by decide +kernel) (by decide +kernel)
      | exact mkR_2 (mkV_1q (L := [.int 1, .int 2, .int 3]) hg' ⟨by decide, by decide⟩ (by decide)) (by decide +kernel) (by decide +kernel)
      | exact mkR_2 (mkV_1q (L := [.int 1, .int 2, .int 3, .int 4]) hg' ⟨by decide, by decide⟩ (by decide)) (by decide +kernel) (by decide +kernel)
      | exact mkR_2 (mkV_q (L := [.int 0, .int 1, .int 2, .int 3]) hg' ⟨by decide, by decide⟩ (by decide)) (by decide +kernel) (by decide +kernel)
      | exact mkR_2 (mkV_q (L := [.int 0, .int 1, .int 2, .int 3, .int 4]) hg' ⟨by decide, by decide⟩ (by decide)) (by decide +kernel) (by decide +kernel)
)
    refine ⟨sz (show xs.length ≤ 100000 by omega), fun p hp => ⟨_, rfl, ?_⟩⟩
    have hkl : k.toNat < xs.length := by omega
    have hki : k = ((k.toNat : Nat) : Int) := by omega
    refine a_ixL (SqL.of upd_same) (by rw [hki]; exact atI_nat (List.getElem?_eq_getElem hkl)) ?_
    exact hnx _ _ ⟨D5.more (Same.new hp), xs[k.toNat], rfl, chunk_mono (hxs _ (List.getElem_mem hkl)) D5.src (Drw.of D5.src (Same.new hp))⟩
  rintro σ5 H5 ⟨D5, v5, rfl, p5, rs5, rfl, hp5, h51, h55, hok5⟩
  have D45 := D34.trans D5
  walk_at "rd"; walk_at "rc"
  refine ⟨sa, ca, 4, rfl, D5.src, rfl, by decide, by decide, fun i6 H6 _ _ D6 => ?_⟩
  walk_at "rd"
  refine a_ite (fun e1 => ?_) (fun e1 => ?_)
  · walk_at "rd"; walk_at "rc"
    exact ⟨sa, ca, rfl, D6.src, fun p rs H7 D7 h1 h2 h3 h4 => q p rs _ ((D45.trans D6).trans D7) h1 h2 (by omega) h4⟩
  walk_at "rd"; walk_at "rc"
  refine ⟨sa, ca, 24, rfl, D6.src, rfl, by decide, by decide, fun i7 H7 hi0 _ D7 => ?_⟩
  have D57 := D6.trans D7
  have hp7 := hp5.mono D5.src D57
  walk_at "rd"
  refine a_ite (fun e2 => ?_) (fun e2 => ?_)
  · have cx7 : Ctx K sa ca vw vn H7 := (cx.mono D5).mono D57
    with_reducible refine a_op ?_
    refine ⟨_, rfl, ?_⟩
    with_reducible refine a_op ?_
    with_reducible refine a_lst ?_
    refine (?_ : MkLs K sa ca k vw g vn 4 _).run (some (.ref p5)) (some (.int i7)) H7 _ cx7 fun xs H8 D8 hl hxs => ?_
    · repeat (first
      | exact mkLs_nil | refine mkLs_cons ?_ ?_ | refine mkL1 ?_ | refine mkL2 ?_ ?_ | refine mkL3 ?_ ?_ ?_ | refine mkL4 ?_ ?_ ?_ ?_ | exact mkR_w | exact mkR_n
      | exact mkR_1 (by decide +kernel) (by decide +kernel) | exact mkR_g (by decide +kernel) | exact mkR_2 mkV_c (by decide +kernel) (by decide +kernel) | exact mkR_2 mkV_one3 (by decide +kernel) (by decide +kernel)
      | exact mkR_2 (mkV_1q (L := [.int 1, .int 2, .int 3]) hg' ⟨by decide, by decide⟩ (by decide)) (by decide +kernel) (by decide +kernel)
      | exact mkR_2 (mkV_1q (L := [.int 1, .int 2, .int 3, .int 4]) hg' ⟨by decide, by decide⟩ (by decide)) (by decide +kernel) (by decide +kernel)
      | exact mkR_2 (mkV_q (L := [.int 0, .int 1, .int 2, .int 3]) hg' ⟨by decide, by decide⟩ (by decide)) (by decide +kernel) (by decide +kernel)
      | exact mkR_2 (mkV_q (L := [.int 0, .int 1, .int 2, .int 3, .int 4]) hg' ⟨by decide, by decide⟩ (by decide)) (by decide +kernel) (by decide +kernel)
)
    refine ⟨sz (show xs.length ≤ 100000 by omega), fun p hp => ⟨_, rfl, ?_⟩⟩
    have hkl : i7.toNat < xs.length := by omega
    have hki : i7 = ((i7.toNat : Nat) : Int) := by omega
    refine a_ixL (SqL.of upd_same) (by rw [hki]; exact atI_nat (List.getElem?_eq_getElem hkl)) ?_
    have g9 := Same.new (o := .lst xs) hp
    obtain ⟨p9, rs9, e9, hp9, h91, h95, hok9⟩ := chunk_mono (hxs _ (List.getElem_mem hkl)) D8.src (Drw.of D8.src g9)
    have hp5' := (hp7.mono D7.src D8).mono D8.src (Drw.of D8.src g9)
    rw [e9]
    obtain ⟨ys9, hy9, hr9⟩ := hp9.at_
    obtain ⟨ys5, hy5, hr5⟩ := hp5'.at_
    have hl5 := hr5.len
    have hl9 := hr9.len
    refine ⟨p5, p9, ys5, ys9, rfl, rfl, hy5, hy9, sz (show ys5.length + ys9.length ≤ 100000 by omega), fun pr hpr => ?_⟩
    have D9 := (D8.more g9)
    have g10 := Same.new (o := .lst (ys5 ++ ys9)) hpr
    refine q pr (rs5 ++ rs9) _ ((D45.trans D57).trans (D9.more g10)) ⟨⟨_, upd_same, Rows.mono g10 (Paired_app hr5 hr9)⟩, (D9.src.ne hpr).1, (D9.src.ne hpr).2⟩ (by rw [List.length_append]; omega) (by rw [List.length_append]; omega) fun r hr => ?_
    rcases List.mem_append.mp hr with hr | hr
    · exact hok5 r hr
    · exact hok9 r hr
  · walk_at "rd"
    exact q p5 rs5 _ (D45.trans D57) hp7 h51 (by omega) hok5
end

end T51

set_option Elab.async false
set_option linter.all false
set_option maxRecDepth 100000
set_option maxHeartbeats 4000000
namespace T51
open PySem PySem.Spec PyProof.Rows L2
local macro_rules | `(tactic| walk_at "rd1") => `(tactic| with_reducible first
  | refine a_seq ?_ | refine a_var rfl ?_ | refine a_c ?_ | refine a_op ?_ | refine a_cons ?_ | refine a_nil ?_ | refine a_cb ?_ | refine a_asg ?_ | refine a_gname ?_ | refine a_ret ?_
  | refine a_if ?_ | refine a_test ?_ | refine a_tB ?_ | refine a_blP ?_ | refine a_and ?_ | refine a_or ?_ | refine a_not ?_ | refine a_andV ?_ | refine a_orV ?_ | refine a_notV ?_ | refine a_ifE ?_
  | refine a_rI0 ?_ | refine a_eqS ?_ | refine a_eqI ?_ | refine a_neS ?_ | refine a_neI ?_ | refine a_call ?_ | refine a_tup ?_ | refine a_lst ?_ | refine a_chain ?_ | refine a_iteT ?_ | refine a_iteF ?_ | refine a_iteNT ?_ | refine a_iteNF ?_
  | refine a_drop ?_ | refine a_next ?_ | refine a_cont ?_ | refine a_break ?_ | refine a_retN ?_ | refine a_ipI ?_ | refine a_aug rfl ?_ | refine a_bm ?_ | refine a_bm0 ?_ | refine b_ord ?_ | refine b_int ?_ | refine b_isN ?_ | refine b_notN ?_ | refine a_un ?_ | refine b_rU ?_ | refine a_fld ?_ | refine a_sfld ?_ | refine a_meth ?_ | refine a_make ?_
  | refine a_dget ?_ | refine a_din ?_ | refine a_dnin ?_ | refine a_dput ?_ | refine a_yes ?_ | refine a_gsub ?_)
local macro_rules | `(tactic| walk_at "is") => `(tactic| with_reducible first
  | refine a_isi_int_int ?_ | refine a_isi_int_bool ?_ | refine a_isi_int_str ?_ | refine a_isi_int_list ?_ | refine a_isi_int_tuple ?_ | refine a_isi_int_dict ?_
  | refine a_isi_bl_int ?_ | refine a_isi_bl_bool ?_ | refine a_isi_bl_str ?_ | refine a_isi_bl_list ?_ | refine a_isi_bl_tuple ?_ | refine a_isi_bl_dict ?_
  | refine a_isi_str_int ?_ | refine a_isi_str_bool ?_ | refine a_isi_str_str ?_ | refine a_isi_str_list ?_ | refine a_isi_str_tuple ?_ | refine a_isi_str_dict ?_
  | refine a_isi_non_int ?_ | refine a_isi_non_bool ?_ | refine a_isi_non_str ?_ | refine a_isi_non_list ?_ | refine a_isi_non_tuple ?_ | refine a_isi_non_dict ?_)
local macro_rules | `(tactic| walk_at "rd") => `(tactic| repeat (walk_at "rd1"))
local macro_rules | `(tactic| walk_at "hp") => `(tactic| first
  | with_reducible assumption
  | with_reducible exact upd_same
  | (with_reducible refine SqL.of ?_; walk_at "hp")
  | (with_reducible refine SqT.of ?_; walk_at "hp")
  | (with_reducible refine Eq.trans (upd_ne ?_) ?_; rotate_left; focus (walk_at "hp"); walk_at "ne")
  | (with_reducible refine (by with_reducible assumption : Same _ _) _ _ ?_; walk_at "hp"))
local macro_rules | `(tactic| walk_at "ne") => `(tactic| first
  | with_reducible assumption
  | with_reducible exact Ne.symm (by with_reducible assumption)
  | (with_reducible refine ne_of_none ?_ (by with_reducible assumption); walk_at "hp")
  | (with_reducible refine Ne.symm (ne_of_none ?_ (by with_reducible assumption)); walk_at "hp"))
local macro_rules | `(tactic| walk_at "rc") => `(tactic| with_reducible first
  | refine a_s1 ?_ | refine a_s2 ?_ | refine a_s3 ?_ | refine a_s4 ?_ | refine a_s0 ?_ | refine a_m1 ?_ | refine a_m2 ?_ | refine a_m3 ?_ | refine a_m4 ?_)
local macro_rules | `(tactic| walk_at "rx1") => `(tactic| with_reducible first
  | refine a_var rfl ?_ | refine a_c ?_ | refine a_op ?_ | refine a_cons ?_ | refine a_nil ?_ | refine a_cb ?_ | refine a_asg ?_ | refine a_gname ?_ | refine a_ret ?_
  | refine a_if ?_ | refine a_test ?_ | refine a_tB ?_ | refine a_blP ?_ | refine a_and ?_ | refine a_or ?_ | refine a_not ?_ | refine a_andV ?_ | refine a_orV ?_ | refine a_notV ?_ | refine a_ifE ?_
  | refine a_rI0 ?_ | refine a_eqS ?_ | refine a_eqI ?_ | refine a_neS ?_ | refine a_neI ?_ | refine a_call ?_ | refine a_tup ?_ | refine a_lst ?_ | refine a_chain ?_ | refine a_iteT ?_ | refine a_iteF ?_ | refine a_iteNT ?_ | refine a_iteNF ?_
  | refine a_drop ?_ | refine a_next ?_ | refine a_cont ?_ | refine a_break ?_ | refine a_retN ?_ | refine a_ipI ?_ | refine a_aug rfl ?_ | refine a_bm ?_ | refine a_bm0 ?_ | refine b_ord ?_ | refine b_int ?_ | refine b_isN ?_ | refine b_notN ?_ | refine a_un ?_ | refine b_rU ?_ | refine a_fld ?_ | refine a_sfld ?_ | refine a_meth ?_ | refine a_make ?_
  | refine a_dget ?_ | refine a_din ?_ | refine a_dnin ?_ | refine a_dput ?_ | refine a_yes ?_ | refine a_gsub ?_)
local macro_rules | `(tactic| walk_at "rx") => `(tactic| repeat (walk_at "rx1"))
section
variable {P : Program} {w : World} {K : PySem.W.Frag} {mg : Str → Option Value} {base : Heap}
theorem Rows.take {H : Hp} : ∀ {xs : List V} {rs : List Ins} (j : Nat), Rows K H xs rs → Rows K H (xs.take j) (rs.take j)
  | _, _, 0, _ => .nil
  | _, _, j + 1, .nil => .nil
  | _, _, j + 1, .cons h1 h2 => .cons h1 (Rows.take j h2)
theorem Rows.set {H : Hp} {v : V} {r : Ins} (hv : RowAt K H v r) : ∀ {xs : List V} {rs : List Ins} (j : Nat), Rows K H xs rs → Rows K H (xs.set j v) (rs.set j r)
  | _, _, _, .nil => .nil
  | _, _, 0, .cons h1 h2 => .cons hv h2
  | _, _, j + 1, .cons h1 h2 => .cons h1 (Rows.set hv j h2)
theorem cut63 (xs : List V) : cutV xs none (some 63) = xs.take 63 := by
  unfold cutV
  show (xs.drop (HT.sIx xs.length 0 none)).take (HT.sIx xs.length xs.length (some 63) - HT.sIx xs.length 0 none) = xs.take 63
  have h0 : HT.sIx xs.length 0 none = 0 := rfl
  have h1 : HT.sIx xs.length xs.length (some 63) = min 63 xs.length := by
    unfold HT.sIx
    simp
    try omega
  rw [h0, h1, List.drop_zero, Nat.sub_zero]
  by_cases c : xs.length ≤ 63
  · rw [Nat.min_eq_right c, List.take_length, List.take_of_length_le c]
  · rw [Nat.min_eq_left (by omega)]
abbrev N__law_code : List Str := ["source", "rows", "turn", "at", "goal", "spot"]
abbrev S__law_code : Scope := defScope (top 77)
theorem sc__law_code : FnScope N__law_code ["source"] (defScope (top 77)) := ⟨rfl, rfl, rfl, by decide +kernel, rfl, by decide +kernel, by decide +kernel⟩
def f_lcode (K : PySem.W.Frag) (x : V) (H : Hp) (Q : VK) : Prop := ∃ sa ca, x = .ref sa ∧ SrcAt H sa ca ∧ ∀ p rs H', Drw sa ca H H' → H p = none → RowsAt K sa ca H' p rs → 1 ≤ rs.length → rs.length ≤ 63 → (∀ r ∈ rs, okIns rs.length r = true) → Q (.ref p) H'
theorem ok_lcode (M : Md w K mg) (C__law_draw : Cal P w K mg base 2 "_law_draw" ["source", "many"] (s2 f_draw)) (C__law_chunk : Cal P w K mg base 5 "_law_chunk" ["source"] (s1 (f_chunk K))) : Cal P w K mg base 6 "_law_code" ["source"] (s1 (f_lcode K)) := by
  obtain ⟨fd, F⟩ := M.fd__law_code
  refine ⟨⟨_, fd, fn_of_d F sc__law_code s1_len (fun cdv A outer s H vs Q E hr h => ?_), M.gl__law_code, F.kp, F.bindsN fun _ _ _ _ _ _ us hl => match us, hl with | [_], _ => rfl⟩⟩
  have hu := hu_of hr
  have nd := sc__law_code.nd
  obtain ⟨_, rfl, sa, ca, rfl, hs, q⟩ := h
  refine ⟨_, (pss_cons (ps_set (i := 1) nd rfl (Or.inl rfl) (pe_lst pa_nil)) (pss_cons (ps_for PassesOwn.never rfl (pi_range1 rfl M.fr_range (pa_cons (pe_op op_add pe_int (pe_cl C__law_draw (hr.mono (by first | decide | omega)) rfl (pa_cons (pv 0) (pa_cons pe_int pa_nil)))) pa_nil)) (pg_name (i := 2) nd rfl (Or.inl rfl)) (pss_one (ps_set (i := 1) nd rfl (Or.inl rfl) (pe_op op_cat (pv 1) (pe_cl C__law_chunk (hr.mono (by first | decide | omega)) rfl (pa_cons (pv 0) pa_nil)))))) (pss_cons (ps_set (i := 1) nd rfl (Or.inl rfl) (pe_slice (sl_listK (K := K) rfl) (pv 1) po_none (po_some pe_int))) (pss_cons (ps_for PassesOwn.never rfl (pi_range1 rfl M.fr_range (pa_cons (pe_callB (call_lenK (K := K) rfl) rfl M.fr_len PySem.boot_len (pa_cons (pv 1) pa_nil)) pa_nil)) (pg_name (i := 3) nd rfl (Or.inl rfl)) (pss_one (ps_if (pt_cmpR (op_inK (K := K) rfl) (pe_ix (ix_tupK (K := K) rfl) (pe_ix (ix_listK (K := K) rfl) (pv 1) (pv 3) (fun _ _ => rfl)) pe_int (fun _ _ => rfl)) (pe_tup (pa_cons pe_str (pa_cons pe_str (pa_cons pe_str (pa_cons pe_str pa_nil))))) (by first | rfl | exact nomark _)) (pss_cons (ps_set (i := 4) nd rfl (Or.inl rfl) (pe_ix (ix_tupK (K := K) rfl) (pe_ix (ix_listK (K := K) rfl) (pv 1) (pv 3) (fun _ _ => rfl)) pe_int (fun _ _ => rfl))) (pss_cons (ps_set (i := 5) nd rfl (Or.inl rfl) (pe_ifExp (pt_cmpR op_eq (pe_op op_mod (pe_callTy call_intN rfl M.fr_int (by decide +kernel) (pa_cons (pv 4) pa_nil)) pe_int) pe_int (nomark _)) (pe_op op_add (pe_op op_add (pv 3) pe_int) (pe_op op_fdiv (pv 4) pe_int)) (pe_op op_fdiv (pv 4) pe_int))) (pss_one (ps_asg (pe_tup (pa_cons (pe_ix (ix_tupK (K := K) rfl) (pe_ix (ix_listK (K := K) rfl) (pv 1) (pv 3) (fun _ _ => rfl)) pe_int (fun _ _ => rfl)) (pa_cons (pe_op op_mod (pe_callTy call_intN rfl M.fr_int (by decide +kernel) (pa_cons (pv 5) pa_nil)) (pe_callB (call_lenK (K := K) rfl) rfl M.fr_len PySem.boot_len (pa_cons (pv 1) pa_nil))) pa_nil))) (pg_sub (pv 1) (pv 3) set_list))))) pss_nil))) (pss_one (ps_ret (pv 1))))))), ?_⟩
  walk_at "rd"
  refine ⟨by decide, fun p0 hp0 => ?_⟩
  have D0 := Drw.of hs (Same.new (o := .lst []) hp0)
  have R0 : RowsAt K sa ca (upd H p0 (.lst [])) p0 [] := ⟨⟨[], upd_same, .nil⟩, (hs.ne hp0).1, (hs.ne hp0).2⟩
  generalize upd H p0 (.lst []) = H1 at D0 R0 ⊢
  walk_at "rd"
  refine a_frng1 ?_
  walk_at "rd"; walk_at "rc"
  refine ⟨sa, ca, 16, rfl, D0.src, rfl, by decide, by decide, fun t H2 ht0 ht D2 => ?_⟩
  walk_at "rd"
  refine ⟨_, rfl, by omega, by omega, ?_⟩
  have D02 := D0.trans D2
  have R2 := R0.mono D0.src D2
  refine for_range (lo := 0) (n := (1 + t).toNat) (fun i σ H3 => Drw sa ca H H3 ∧ ∃ p rs v, σ = [some (.ref sa), some (.ref p), v, none, none, none] ∧ RowsAt K sa ca H3 p rs ∧ rs.length ≤ 10 * i ∧ (1 ≤ i → 1 ≤ rs.length) ∧ ∀ r ∈ rs, okPre r) ⟨D02, p0, [], _, rfl, R2, by simp, fun z => absurd z (by omega), fun r hr => by cases hr⟩ ?_ ?_
  · rintro i σ H3 hi ⟨D3, p, rs, v, rfl, R3, hl, h1, hok⟩
    walk_at "rd"; walk_at "rc"
    refine ⟨sa, ca, rfl, D3.src, fun p' rs' H4 D4 R4 h41 h410 hok4 => ?_⟩
    obtain ⟨xs, hx, hr⟩ := (R3.mono D3.src D4).at_
    obtain ⟨ys, hy, hr'⟩ := R4.at_
    have l1 := hr.len
    have l2 := hr'.len
    refine ⟨p, p', xs, ys, rfl, rfl, hx, hy, sz (show xs.length + ys.length ≤ 100000 by omega), fun pr hpr => ?_⟩
    have g5 := Same.new (o := .lst (xs ++ ys)) hpr
    have D5 := (D3.trans D4).more g5
    walk_at "rd"
    refine ⟨D5, pr, rs ++ rs', _, rfl, ⟨⟨_, upd_same, Rows.mono g5 (Paired_app hr hr')⟩, (D4.src.ne hpr).1, (D4.src.ne hpr).2⟩, by rw [List.length_append]; omega, fun _ => by rw [List.length_append]; omega, fun r hr => ?_⟩
    rcases List.mem_append.mp hr with hr | hr
    · exact hok r hr
    · exact hok4 r hr
  rintro σ H3 ⟨D3, p, rs, v, rfl, R3, hl, h1, hok⟩
  have h1 := h1 (by omega)
  obtain ⟨xs, hx, hr⟩ := R3.at_
  walk_at "rd"
  refine ⟨_, rfl, 63, rfl, p, xs, rfl, SqL.of hx, fun pb hpb => ?_⟩
  rw [cut63]
  have g4 := Same.new (o := .lst (xs.take 63)) hpb
  have hpb4 : (upd H3 pb (.lst (xs.take 63))) pb = some (.lst (xs.take 63)) := upd_same
  have hrw4 := Rows.mono g4 (Rows.take 63 hr)
  have hbn := D3.src.ne hpb
  have D34 := Drw.of D3.src g4
  have hbH : H pb = none := by
    cases e : H pb with
    | none => rfl
    | some o =>
      have := D3.keep _ _ e hbn.1 hbn.2
      rw [hpb] at this
      cases this
  generalize hts : rs.take 63 = ts at hrw4
  generalize xs.take 63 = ys at hpb4 hrw4 D34 ⊢
  generalize upd H3 pb (.lst ys) = H4 at hpb4 hrw4 D34 ⊢
  have htl : ts.length = min 63 rs.length := by rw [← hts, List.length_take]
  have hto : ∀ r ∈ ts, okPre r := fun r hr => hok r (List.mem_of_mem_take (by rw [hts]; exact hr))
  have hyl := hrw4.len
  walk_at "rd"
  refine a_frng1 ?_
  walk_at "rd"
  refine b_lenL (SqL.of hpb4) ?_
  walk_at "rd"
  refine ⟨_, rfl, by omega, by omega, ?_⟩
  rw [Int.toNat_natCast, hyl]
  refine for_range (lo := 0) (n := ts.length) (fun i σ H5 => Drw sa ca H3 H5 ∧ ∃ ys us v2 v3 v4 v5, σ = [some (.ref sa), some (.ref pb), v2, v3, v4, v5] ∧ H5 pb = some (.lst ys) ∧ Rows K H5 ys us ∧ us.length = ts.length ∧ (∀ j r, us[j]? = some r → if j < i then okIns ts.length r = true else okPre r)) ⟨D34, ys, ts, _, _, _, _, rfl, hpb4, hrw4, rfl, fun j r e => by rw [if_neg (by omega)]; exact hto r (List.mem_of_getElem? e)⟩ ?_ ?_
  · rintro i σ H5 hi ⟨D5, ys, us, v2, v3, v4, v5, rfl, hy5, hr5, hul, hok5⟩
    have hc : ((0 : Int) + (i : Nat)) = ((i : Nat) : Int) := by omega
    rw [hc]
    have hri : us[i]? = some us[i] := List.getElem?_eq_getElem (by omega)
    obtain ⟨a, hxa, hsa⟩ := hr5.at hri
    have hpre := hok5 i _ hri
    rw [if_neg (by omega)] at hpre
    have l5 := hr5.len
    generalize hus : us[i] = r at hri hsa hpre
    have step : ∀ r' us', us' = us.set i r' → okIns ts.length r' = true → ∀ j r, us'[j]? = some r → if j < i + 1 then okIns ts.length r = true else okPre r := fun r' us' e ho j r0 ej => by
      rw [e, List.getElem?_set] at ej
      by_cases c : i = j
      · rw [if_pos c, if_pos (by omega)] at ej
        rw [if_pos (by omega), ← Option.some.inj ej]
        exact ho
      · rw [if_neg c] at ej
        have := hok5 j r0 ej
        by_cases c2 : j < i
        · rw [if_pos c2] at this; rw [if_pos (by omega)]; exact this
        · rw [if_neg c2] at this; rw [if_neg (by omega)]; exact this
    walk_at "rd"
    refine a_ixL (SqL.of hy5) (atI_nat hxa) ?_
    walk_at "rd"
    refine a_ixT hsa atI0 ?_
    walk_at "rd"
    refine ⟨by decide +kernel, fun T hT => ?_⟩
    have g6 := Same.new (o := .tup [.str "jump", .str "retry", .str "any", .str "keep"]) hT
    refine b_inT (SqT.of upd_same) rfl (by decide +kernel) (b := plB r.w) rfl ?_
    have D6 := D5.more g6
    have hy6 := g6 _ _ hy5
    have hr6 := Rows.mono g6 hr5
    have hsa6 := Same.seqT g6 hsa
    generalize upd H5 T (.tup [.str "jump", .str "retry", .str "any", .str "keep"]) = H6 at D6 hy6 hr6 hsa6 ⊢
    walk_at "rd"
    cases hp : plB r.w with
    | false =>
      walk_at "rd"
      have ho : ∀ n : Int, okIns n r = true := by
        rcases hpre with ⟨h1, _⟩ | ⟨_, h2⟩
        · rw [hp] at h1; cases h1
        · exact h2
      refine ⟨D6, ys, us, _, _, _, _, rfl, hy6, hr6, hul, step r us ?_ (ho _)⟩
      rw [← hus, List.set_getElem_self]
    | true =>
      obtain ⟨g, hx⟩ : ∃ g : Nat, r.x = some (.int (g : Nat)) := by
        rcases hpre with ⟨_, h2⟩ | ⟨h1, _⟩
        · exact h2
        · rw [hp] at h1; cases h1
      walk_at "rd"
      refine a_ixL (SqL.of hy6) (atI_nat hxa) ?_
      walk_at "rd"
      refine a_ixT hsa6 (atI1 hx) ?_
      walk_at "rd"
      refine b_rI (by decide) ?_
      walk_at "rd"
      have fin : ∀ (s : Int), ∀ T2, H6 T2 = none → Drw sa ca H3 (upd (upd H6 T2 (.tup [.str r.w, .int (s % (ys.length : Nat))])) pb (.lst (ys.set i (.ref T2)))) ∧ ∃ ys' us v2' v3' v4' v5', [some (.ref sa), some (.ref pb), v2, some (.int (i : Nat)), some (.int (g : Nat)), some (.int s)] = [some (V.ref sa), some (.ref pb), v2', v3', v4', v5'] ∧ (upd (upd H6 T2 (.tup [.str r.w, .int (s % (ys.length : Nat))])) pb (.lst (ys.set i (.ref T2)))) pb = some (.lst ys') ∧
          Rows K (upd (upd H6 T2 (.tup [.str r.w, .int (s % (ys.length : Nat))])) pb (.lst (ys.set i (.ref T2)))) ys' us ∧ us.length = ts.length ∧ (∀ j r, us[j]? = some r → if j < i + 1 then okIns ts.length r = true else okPre r) := fun s T2 hT2 => by
        have g7 := Same.new (o := .tup [.str r.w, .int (s % (ys.length : Nat))]) hT2
        have hy7 := g7 _ _ hy6
        have st := SameT.lst (o := .lst (ys.set i (.ref T2))) hy7
        have h0 := Int.emod_nonneg s (show ((ys.length : Nat) : Int) ≠ 0 by omega)
        have h2 := Int.emod_lt_of_pos s (show (0 : Int) < ((ys.length : Nat) : Int) by omega)
        have hsn : s % (ys.length : Nat) = ((s % (ys.length : Nat)).toNat : Nat) := by omega
        refine ⟨(D6.more g7).mut hpb hbn.1 hbn.2, _, us.set i ⟨r.w, some (.int (s % (ys.length : Nat)))⟩, _, _, _, _, rfl, upd_same, Rows.set ⟨T2, rfl, st.sq (SqT.of upd_same)⟩ i (Rows.tup st (Rows.mono g7 hr6)), by rw [List.length_set]; exact hul, step _ _ rfl ?_⟩
        rw [hsn]
        exact pl_ok hp (by omega)
      refine a_ite (fun e2 => ?_) (fun e2 => ?_)
      · walk_at "rd"
        refine b_rI ⟨by decide, by decide⟩ ?_
        walk_at "rd"
        refine a_ixL (SqL.of hy6) (atI_nat hxa) ?_
        walk_at "rd"
        refine a_ixT hsa6 atI0 ?_
        walk_at "rd"
        refine b_lenL (SqL.of hy6) ?_
        walk_at "rd"
        refine b_rI (by omega) ?_
        walk_at "rd"
        refine ⟨sz2, fun T2 hT2 => ?_⟩
        walk_at "rd"
        refine b_set ((Same.new hT2) _ _ hy6) (by omega) ?_
        exact fin _ T2 hT2
      · walk_at "rd"
        refine b_rI ⟨by decide, by decide⟩ ?_
        walk_at "rd"
        refine a_ixL (SqL.of hy6) (atI_nat hxa) ?_
        walk_at "rd"
        refine a_ixT hsa6 atI0 ?_
        walk_at "rd"
        refine b_lenL (SqL.of hy6) ?_
        walk_at "rd"
        refine b_rI (by omega) ?_
        walk_at "rd"
        refine ⟨sz2, fun T2 hT2 => ?_⟩
        walk_at "rd"
        refine b_set ((Same.new hT2) _ _ hy6) (by omega) ?_
        exact fin _ T2 hT2
  rintro σ H5 ⟨D5, ys, us, v2, v3, v4, v5, rfl, hy5, hr5, hul, hok5⟩
  walk_at "rd"
  refine q pb us H5 (D3.trans D5) hbH ⟨⟨ys, hy5, hr5⟩, hbn.1, hbn.2⟩ (by omega) (by omega) fun r hr => ?_
  obtain ⟨j, e⟩ := List.mem_iff_getElem?.mp hr
  have := hok5 j r e
  rw [if_pos (by have := (List.getElem?_eq_some_iff.mp e).1; omega)] at this
  rw [hul]
  exact this
end

end T51

set_option Elab.async false
set_option linter.all false
set_option maxRecDepth 100000
set_option maxHeartbeats 4000000
namespace T51
open PySem PySem.Spec PyProof.Rows L2
local macro_rules | `(tactic| walk_at "rd1") => `(tactic| with_reducible first
  | refine a_seq ?_ | refine a_var rfl ?_ | refine a_c ?_ | refine a_op ?_ | refine a_cons ?_ | refine a_nil ?_ | refine a_cb ?_ | refine a_asg ?_ | refine a_gname ?_ | refine a_ret ?_
  | refine a_if ?_ | refine a_test ?_ | refine a_tB ?_ | refine a_blP ?_ | refine a_and ?_ | refine a_or ?_ | refine a_not ?_ | refine a_andV ?_ | refine a_orV ?_ | refine a_notV ?_ | refine a_ifE ?_
  | refine a_rI0 ?_ | refine a_eqS ?_ | refine a_eqI ?_ | refine a_neS ?_ | refine a_neI ?_ | refine a_call ?_ | refine a_tup ?_ | refine a_lst ?_ | refine a_chain ?_ | refine a_iteT ?_ | refine a_iteF ?_ | refine a_iteNT ?_ | refine a_iteNF ?_
  | refine a_drop ?_ | refine a_next ?_ | refine a_cont ?_ | refine a_break ?_ | refine a_retN ?_ | refine a_ipI ?_ | refine a_aug rfl ?_ | refine a_bm ?_ | refine a_bm0 ?_ | refine b_ord ?_ | refine b_int ?_ | refine b_isN ?_ | refine b_notN ?_ | refine a_un ?_ | refine b_rU ?_ | refine a_fld ?_ | refine a_sfld ?_ | refine a_meth ?_ | refine a_make ?_
  | refine a_dget ?_ | refine a_din ?_ | refine a_dnin ?_ | refine a_dput ?_ | refine a_yes ?_ | refine a_gsub ?_)
local macro_rules | `(tactic| walk_at "is") => `(tactic| with_reducible first
  | refine a_isi_int_int ?_ | refine a_isi_int_bool ?_ | refine a_isi_int_str ?_ | refine a_isi_int_list ?_ | refine a_isi_int_tuple ?_ | refine a_isi_int_dict ?_
  | refine a_isi_bl_int ?_ | refine a_isi_bl_bool ?_ | refine a_isi_bl_str ?_ | refine a_isi_bl_list ?_ | refine a_isi_bl_tuple ?_ | refine a_isi_bl_dict ?_
  | refine a_isi_str_int ?_ | refine a_isi_str_bool ?_ | refine a_isi_str_str ?_ | refine a_isi_str_list ?_ | refine a_isi_str_tuple ?_ | refine a_isi_str_dict ?_
  | refine a_isi_non_int ?_ | refine a_isi_non_bool ?_ | refine a_isi_non_str ?_ | refine a_isi_non_list ?_ | refine a_isi_non_tuple ?_ | refine a_isi_non_dict ?_)
local macro_rules | `(tactic| walk_at "rd") => `(tactic| repeat (walk_at "rd1"))
local macro_rules | `(tactic| walk_at "hp") => `(tactic| first
  | with_reducible assumption
  | with_reducible exact upd_same
  | (with_reducible refine SqL.of ?_; walk_at "hp")
  | (with_reducible refine SqT.of ?_; walk_at "hp")
  | (with_reducible refine Eq.trans (upd_ne ?_) ?_; rotate_left; focus (walk_at "hp"); walk_at "ne")
  | (with_reducible refine (by with_reducible assumption : Same _ _) _ _ ?_; walk_at "hp"))
local macro_rules | `(tactic| walk_at "ne") => `(tactic| first
  | with_reducible assumption
  | with_reducible exact Ne.symm (by with_reducible assumption)
  | (with_reducible refine ne_of_none ?_ (by with_reducible assumption); walk_at "hp")
  | (with_reducible refine Ne.symm (ne_of_none ?_ (by with_reducible assumption)); walk_at "hp"))
local macro_rules | `(tactic| walk_at "rc") => `(tactic| with_reducible first
  | refine a_s1 ?_ | refine a_s2 ?_ | refine a_s3 ?_ | refine a_s4 ?_ | refine a_s0 ?_ | refine a_m1 ?_ | refine a_m2 ?_ | refine a_m3 ?_ | refine a_m4 ?_)
local macro_rules | `(tactic| walk_at "rx1") => `(tactic| with_reducible first
  | refine a_var rfl ?_ | refine a_c ?_ | refine a_op ?_ | refine a_cons ?_ | refine a_nil ?_ | refine a_cb ?_ | refine a_asg ?_ | refine a_gname ?_ | refine a_ret ?_
  | refine a_if ?_ | refine a_test ?_ | refine a_tB ?_ | refine a_blP ?_ | refine a_and ?_ | refine a_or ?_ | refine a_not ?_ | refine a_andV ?_ | refine a_orV ?_ | refine a_notV ?_ | refine a_ifE ?_
  | refine a_rI0 ?_ | refine a_eqS ?_ | refine a_eqI ?_ | refine a_neS ?_ | refine a_neI ?_ | refine a_call ?_ | refine a_tup ?_ | refine a_lst ?_ | refine a_chain ?_ | refine a_iteT ?_ | refine a_iteF ?_ | refine a_iteNT ?_ | refine a_iteNF ?_
  | refine a_drop ?_ | refine a_next ?_ | refine a_cont ?_ | refine a_break ?_ | refine a_retN ?_ | refine a_ipI ?_ | refine a_aug rfl ?_ | refine a_bm ?_ | refine a_bm0 ?_ | refine b_ord ?_ | refine b_int ?_ | refine b_isN ?_ | refine b_notN ?_ | refine a_un ?_ | refine b_rU ?_ | refine a_fld ?_ | refine a_sfld ?_ | refine a_meth ?_ | refine a_make ?_
  | refine a_dget ?_ | refine a_din ?_ | refine a_dnin ?_ | refine a_dput ?_ | refine a_yes ?_ | refine a_gsub ?_)
local macro_rules | `(tactic| walk_at "rx") => `(tactic| repeat (walk_at "rx1"))
section
variable {P : Program} {w : World} {K : PySem.W.Frag} {mg : Str → Option Value} {base : Heap}
section
variable {sa ca : Addr} {vw : V} {rw_ : Ins} {σ : L2.St}
def UR (K : PySem.W.Frag) (sa ca : Addr) (vw : V) (rw_ : Ins) (σ : L2.St) (t : TE) (r : Ins) : Prop := ∀ H Q, SrcAt H sa ca → RowAt K H vw rw_ → (∀ v H', Same H H' → RowAt K H' v r → Q v H') → t σ H Q
def UL (K : PySem.W.Frag) (sa ca : Addr) (vw : V) (rw_ : Ins) (σ : L2.St) (t : TE) (rs : List Ins) : Prop := ∀ H Q, SrcAt H sa ca → RowAt K H vw rw_ → (∀ p H', Same H H' → RowsAt K sa ca H' p rs → Q (.ref p) H') → t σ H Q
def UnitsAt (K : PySem.W.Frag) (sa ca : Addr) (H : Hp) (vs : List V) (us : List (List Ins)) : Prop := Paired (fun v rs => ∃ p, v = .ref p ∧ RowsAt K sa ca H p rs) vs us
def UM (K : PySem.W.Frag) (sa ca : Addr) (vw : V) (rw_ : Ins) (σ : L2.St) (t : TA) (us : List (List Ins)) : Prop := ∀ H Q, SrcAt H sa ca → RowAt K H vw rw_ → (∀ vs H', Same H H' → UnitsAt K sa ca H' vs us → Q vs H') → t σ H Q
theorem row_same {H H' : Hp} (e : Same H H') {v : V} {r : Ins} (h : RowAt K H v r) : RowAt K H' v r := sameT_row (SameT.of e) h
theorem ur_w (h : σ[5]? = some (some vw)) : UR K sa ca vw rw_ σ (tVar 5) rw_ := fun H Q _ hw q => ⟨_, h, q _ _ (Same.refl _) hw⟩
theorem ur_1 {z : Str} : UR K sa ca vw rw_ σ (tTup (tCons (tC (.str z)) tNil)) ⟨z, none⟩ := fun H Q _ hw q => ⟨sz1, fun T hT => q _ _ (Same.new hT) ⟨T, rfl, SqT.of upd_same⟩⟩
theorem ur_2 {z : Str} {x : V} : UR K sa ca vw rw_ σ (tTup (tCons (tC (.str z)) (tCons (tC x) tNil))) ⟨z, some x⟩ := fun H Q _ hw q => ⟨sz2, fun T hT => q _ _ (Same.new hT) ⟨T, rfl, SqT.of upd_same⟩⟩
theorem ur_g {z : Str} {s a : Int} (h2 : σ[2]? = some (some (.int s))) (h3 : σ[3]? = some (some (.int a))) : UR K sa ca vw rw_ σ (tTup (tCons (tC (.str z)) (tCons (tOp (rI0 fun i j => V.int (i + j)) (tVar 2) (tVar 3)) tNil))) ⟨z, some (.int (s + a))⟩ :=
  fun H Q _ hw q => ⟨_, h2, _, h3, _, _, rfl, rfl, sz2, fun T hT => q _ _ (Same.new hT) ⟨T, rfl, SqT.of upd_same⟩⟩
theorem ul_3 {t1 t2 t3 : TE} {r1 r2 r3 : Ins} (h1 : UR K sa ca vw rw_ σ t1 r1) (h2 : UR K sa ca vw rw_ σ t2 r2) (h3 : UR K sa ca vw rw_ σ t3 r3) : UL K sa ca vw rw_ σ (tLst (tCons t1 (tCons t2 (tCons t3 tNil)))) [r1, r2, r3] := fun H Q hs hw q => by
  refine a_lst (a_cons (h1 H _ hs hw fun v1 H1 g1 k1 => a_cons (h2 H1 _ (hs.mono g1) (row_same g1 hw) fun v2 H2 g2 k2 => a_cons (h3 H2 _ (hs.mono (g1.trans g2)) (row_same (g1.trans g2) hw) fun v3 H3 g3 k3 => ?_))))
  have g13 := (g1.trans g2).trans g3
  refine ⟨sz3, fun p hp => ?_⟩
  have g4 := Same.new (o := .lst [v1, v2, v3]) hp
  exact q p _ (Same.more g13 hp) ⟨⟨[v1, v2, v3], upd_same, .cons (row_same ((g2.trans g3).trans g4) k1) (.cons (row_same (g3.trans g4) k2) (.cons (row_same g4 k3) .nil))⟩, ((hs.mono g13).ne hp).1, ((hs.mono g13).ne hp).2⟩
theorem um_nil : UM K sa ca vw rw_ σ tNil [] := fun H Q hs hw q => q [] _ (Same.refl _) .nil
theorem um_cons {t : TE} {ts : TA} {u : List Ins} {us : List (List Ins)} (h : UL K sa ca vw rw_ σ t u) (h2 : UM K sa ca vw rw_ σ ts us) : UM K sa ca vw rw_ σ (tCons t ts) (u :: us) := fun H Q hs hw q => by
  refine a_cons (h H _ hs hw fun p H1 g1 k1 => h2 H1 _ (hs.mono g1) (row_same g1 hw) fun vs H2 g2 k2 => ?_)
  exact q _ _ (g1.trans g2) (.cons ⟨p, rfl, k1.mono (hs.mono g1) (Drw.of (hs.mono g1) g2)⟩ k2)
end
theorem Rows.rep {H : Hp} {xs : List V} {rs : List Ins} (h : Rows K H xs rs) : ∀ k : Nat, Rows K H (List.replicate k xs).flatten (List.replicate k rs).flatten
  | 0 => .nil
  | k + 1 => by
    rw [List.replicate_succ, List.replicate_succ, List.flatten_cons, List.flatten_cons]
    exact Paired_app h (Rows.rep h k)
theorem rep_len {α : Type} {xs : List α} : ∀ k : Nat, (List.replicate k xs).flatten.length = k * xs.length
  | 0 => by simp
  | k + 1 => by
    rw [List.replicate_succ, List.flatten_cons, List.length_append, rep_len k, Nat.succ_mul]
    omega
theorem rep_mem {α : Type} {xs : List α} {x : α} {k : Nat} (h : x ∈ (List.replicate k xs).flatten) : x ∈ xs := by
  obtain ⟨l, h1, h2⟩ := List.mem_flatten.mp h
  rw [List.eq_of_mem_replicate h1] at h2
  exact h2
def mvS (s : Nat) (r : Ins) : Ins := if plB r.w = true then ⟨r.w, some (.int (tgt r + s : Nat))⟩ else r
theorem mvS_ok {s n : Nat} {r : Ins} (h : okIns n r = true) : okIns ((s + n : Nat) : Int) (mvS s r) = true := by
  unfold mvS
  by_cases p : plB r.w = true
  · rw [if_pos p]
    have := (tgt_lt h p).1
    exact pl_ok p (by omega)
  · rw [if_neg p]
    exact ok_other h (by cases e : plB r.w <;> simp_all)
abbrev N__law_line : List Str := ["source", "rows", "size", "at", "kinds", "worth", "units", "placed", "moved", "row"]
abbrev S__law_line : Scope := defScope (top 78)
theorem sc__law_line : FnScope N__law_line ["source", "rows"] (defScope (top 78)) := ⟨rfl, rfl, rfl, by decide +kernel, rfl, by decide +kernel, by decide +kernel⟩
def f_line (K : PySem.W.Frag) (x l : V) (H : Hp) (Q : VK) : Prop := ∃ sa ca p rs, x = .ref sa ∧ SrcAt H sa ca ∧ l = .ref p ∧ RowsAt K sa ca H p rs ∧ 1 ≤ rs.length ∧ rs.length ≤ 63 ∧ (∀ r ∈ rs, okIns rs.length r = true) ∧
  ∀ p' rs' H', Drw sa ca H H' → RowsAt K sa ca H' p' rs' → 1 ≤ rs'.length → rs'.length ≤ 9000 → (∀ r ∈ rs', okIns rs'.length r = true) → Q (.ref p') H'
theorem ok_line (M : Md w K mg) (C__law_draw : Cal P w K mg base 2 "_law_draw" ["source", "many"] (s2 f_draw)) (C__law_constant : Cal P w K mg base 3 "_law_constant" ["source"] (s1 (f_const K))) : Cal P w K mg base 4 "_law_line" ["source", "rows"] (s2 (f_line K)) := by
  obtain ⟨fd, F⟩ := M.fd__law_line
  refine ⟨⟨_, fd, fn_of_d F sc__law_line s2_len (fun cdv A outer s H vs Q E hr h => ?_), M.gl__law_line, F.kp, F.bindsN fun _ _ _ _ _ _ us hl => match us, hl with | [_, _], _ => rfl⟩⟩
  have hu := hu_of hr
  have nd := sc__law_line.nd
  obtain ⟨_, _, rfl, sa, ca, p, rs, rfl, hs, rfl, R0, hn1, hn2, hok, q⟩ := h
  refine ⟨_, (pss_cons (ps_set (i := 2) nd rfl (Or.inr rfl) (pe_op op_mul pe_int (pe_op op_add pe_int (pe_cl C__law_draw (hr.mono (by first | decide | omega)) rfl (pa_cons (pv 0) (pa_cons pe_int pa_nil)))))) (pss_cons (ps_set (i := 3) nd rfl (Or.inl rfl) (pe_cl C__law_draw (hr.mono (by first | decide | omega)) rfl (pa_cons (pv 0) (pa_cons (pe_callB (call_lenK (K := K) rfl) rfl M.fr_len PySem.boot_len (pa_cons (pv 1) pa_nil)) pa_nil)))) (pss_cons (ps_set (i := 4) nd rfl (Or.inl rfl) (pe_ifExp (pt_cmpR (op_inK (K := K) rfl) (pe_ix (ix_tupK (K := K) rfl) (pe_ix (ix_listK (K := K) rfl) (pv 1) (pv 3) (fun _ _ => rfl)) pe_int (fun _ _ => rfl)) (pe_tup (pa_cons pe_str (pa_cons pe_str pa_nil))) (by first | rfl | exact nomark _)) pe_int pe_int)) (pss_cons (ps_set (i := 5) nd rfl (Or.inl rfl) (pe_cl C__law_constant (hr.mono (by first | decide | omega)) rfl (pa_cons (pv 0) pa_nil))) (pss_cons (ps_set (i := 6) nd rfl (Or.inl rfl) (pe_lst (pa_cons (pe_lst (pa_cons (pv 5) (pa_cons (pe_tup (pa_cons pe_str (pa_cons pe_str pa_nil))) (pa_cons (pe_tup (pa_cons pe_str pa_nil)) pa_nil)))) (pa_cons (pe_lst (pa_cons (pv 5) (pa_cons (pe_tup (pa_cons pe_str (pa_cons pe_str pa_nil))) (pa_cons (pe_tup (pa_cons pe_str pa_nil)) pa_nil)))) (pa_cons (pe_lst (pa_cons (pe_tup (pa_cons pe_str (pa_cons (pe_op op_add (pv 2) (pv 3)) pa_nil))) (pa_cons (pv 5) (pa_cons (pe_tup (pa_cons pe_str (pa_cons pe_str pa_nil))) pa_nil)))) (pa_cons (pe_lst (pa_cons (pe_tup (pa_cons pe_str pa_nil)) (pa_cons (pe_tup (pa_cons pe_str (pa_cons (pe_op op_add (pv 2) (pv 3)) pa_nil))) (pa_cons (pv 5) pa_nil)))) pa_nil)))))) (pss_cons (ps_set (i := 7) nd rfl (Or.inr rfl) (pe_tup (pa_cons pe_str (pa_cons pe_str (pa_cons pe_str (pa_cons pe_str pa_nil)))))) (pss_cons (ps_setLc (i := 8) (own := [("row", 9)]) (g := gName 9) (tt := tYes) rfl nd rfl rfl (sw_true rfl rfl rfl (by decide +kernel)) (pi_list (pv 1)) (blkOk_by (own := [("row", 9)]) (N := N__law_line) (sc := S__law_line) (by decide +kernel)) (fun _ _ _ _ _ => (pg_name (i := 9) nd rfl (Or.inl rfl))) (fun _ _ _ _ _ => pts_nil) (fun _ _ _ _ _ => (pe_ifExp (pt_cmpR (op_inK (K := K) rfl) (pe_ix (ix_tupK (K := K) rfl) (pv 9) pe_int (fun _ _ => rfl)) (pv 7) (by first | rfl | exact nomark _)) (pe_tup (pa_cons (pe_ix (ix_tupK (K := K) rfl) (pv 9) pe_int (fun _ _ => rfl)) (pa_cons (pe_op op_add (pe_ix (ix_tupK (K := K) rfl) (pv 9) pe_int (fun _ _ => rfl)) (pv 2)) pa_nil))) (pv 9)))) (pss_one (ps_ret (pe_op op_cat (pe_op op_rep (pe_ix (ix_listK (K := K) rfl) (pv 6) (pe_cl C__law_draw (hr.mono (by first | decide | omega)) rfl (pa_cons (pv 0) (pa_cons (pv 4) pa_nil))) (fun _ _ => rfl)) (pe_op op_fdiv (pv 2) pe_int)) (pv 8))))))))))), ?_⟩
  walk_at "rd"; walk_at "rc"
  refine ⟨sa, ca, 60, rfl, hs, rfl, by decide, by decide, fun d H1 hd0 hd D1 => ?_⟩
  walk_at "rd"
  refine b_rI (.inl (by decide)) ?_
  walk_at "rd"
  obtain ⟨m, hm⟩ : ∃ m : Nat, 340 + d = (m : Nat) := ⟨(340 + d).toNat, by omega⟩
  rw [hm]
  have hm1 : 340 ≤ m ∧ m < 400 := by omega
  have R1 := R0.mono hs D1
  obtain ⟨xs1, hx1, hr1⟩ := R1.at_
  have l1 := hr1.len
  refine b_lenL (SqL.of hx1) ?_
  walk_at "rd"; walk_at "rc"
  refine ⟨sa, ca, _, rfl, D1.src, rfl, by omega, by omega, fun ai H2 ha0 ha D2 => ?_⟩
  obtain ⟨at_, rfl⟩ : ∃ a : Nat, ai = (a : Nat) := ⟨ai.toNat, by omega⟩
  have hat : at_ < rs.length := by omega
  have R2 := R1.mono D1.src D2
  obtain ⟨xs2, hx2, hr2⟩ := R2.at_
  have l2 := hr2.len
  have hra : rs[at_]? = some rs[at_] := List.getElem?_eq_getElem hat
  obtain ⟨a, hxa, hsa⟩ := hr2.at hra
  have h3m : (3 * (m : Nat) : Int) = ((3 * m : Nat) : Int) := by omega
  rw [h3m]
  walk_at "rx"
  with_reducible refine s_cut (fun σ' H' => Drw sa ca H2 H' ∧ ∃ kd : Int, 2 ≤ kd ∧ kd ≤ 4 ∧ σ' = [some (.ref sa), some (.ref p), some (.int (3 * m : Nat)), some (.int (at_ : Nat)), some (.int kd), none, none, none, none, none]) ?_ ?_
  · intro nx' hnx
    walk_at "rd"
    refine a_ixL (SqL.of hx2) (atI_nat hxa) ?_
    walk_at "rd"
    refine a_ixT hsa atI0 ?_
    walk_at "rd"
    refine ⟨sz2, fun T hT => ?_⟩
    refine b_inT (SqT.of upd_same) rfl rfl rfl ?_
    walk_at "rd"
    refine a_iteB (fun e1 => ?_) (fun e1 => ?_)
    · walk_at "rd"
      exact hnx _ _ ⟨Drw.of D2.src (Same.new hT), 2, by decide, by decide, rfl⟩
    · walk_at "rd"
      exact hnx _ _ ⟨Drw.of D2.src (Same.new hT), 4, by decide, by decide, rfl⟩
  rintro σ3 H3 ⟨D3, kd, hk2, hk4, rfl⟩
  walk_at "rd"; walk_at "rc"
  refine ⟨sa, ca, rfl, D3.src, fun vw c H4 D4 hvw hcw => ?_⟩
  have D14 := (D1.trans D2).trans (D3.trans D4)
  have R4 := R2.mono D2.src (D3.trans D4)
  walk_at "rx"
  have hN : ∃ us : List (List Ins), us.length = 4 ∧ (∀ u ∈ us, u.length = 3 ∧ ∀ r ∈ u, okIns ((3 * m + rs.length : Nat) : Int) r = true) ∧ us = [[⟨"worth", some c⟩, ⟨"deed", some (.str "say")⟩, ⟨"drop", none⟩], [⟨"worth", some c⟩, ⟨"lend", some (.str "a")⟩, ⟨"drop", none⟩],
      [⟨"retry", some (.int (((3 * m : Nat) : Int) + (at_ : Nat)))⟩, ⟨"worth", some c⟩, ⟨"give", some (.str "b")⟩], [⟨"open", none⟩, ⟨"retry", some (.int (((3 * m : Nat) : Int) + (at_ : Nat)))⟩, ⟨"worth", some c⟩]] := by
    refine ⟨_, rfl, fun u hu => ?_, rfl⟩
    have np : ∀ (r : Ins), okIns 0 r = true → plB r.w = false → okIns ((3 * m + rs.length : Nat) : Int) r = true := fun r h p => ok_other h p
    have k1 : okIns ((3 * m + rs.length : Nat) : Int) ⟨"worth", some c⟩ = true := hcw
    have k2 := np ⟨"deed", some (.str "say")⟩ (by decide +kernel) (by decide +kernel)
    have k3 := np ⟨"drop", none⟩ (by decide +kernel) (by decide +kernel)
    have k4 := np ⟨"lend", some (.str "a")⟩ (by decide +kernel) (by decide +kernel)
    have k5 := np ⟨"give", some (.str "b")⟩ (by decide +kernel) (by decide +kernel)
    have k6 := np ⟨"open", none⟩ (by decide +kernel) (by decide +kernel)
    have k7 : okIns ((3 * m + rs.length : Nat) : Int) ⟨"retry", some (.int (((3 * m : Nat) : Int) + (at_ : Nat)))⟩ = true := by
      rw [show (((3 * m : Nat) : Int) + (at_ : Nat)) = ((3 * m + at_ : Nat) : Int) by omega]
      exact pl_ok retry_pl (by omega)
    have three : ∀ (a b d : Ins), okIns ((3 * m + rs.length : Nat) : Int) a = true → okIns ((3 * m + rs.length : Nat) : Int) b = true → okIns ((3 * m + rs.length : Nat) : Int) d = true → [a, b, d].length = 3 ∧ ∀ r ∈ [a, b, d], okIns ((3 * m + rs.length : Nat) : Int) r = true := fun a b d h1 h2 h3 => ⟨rfl, fun r hr => by
      rcases List.mem_cons.mp hr with rfl | hr
      · exact h1
      rcases List.mem_cons.mp hr with rfl | hr
      · exact h2
      rw [List.mem_singleton.mp hr]
      exact h3⟩
    rcases List.mem_cons.mp hu with rfl | hu
    · exact three _ _ _ k1 k2 k3
    rcases List.mem_cons.mp hu with rfl | hu
    · exact three _ _ _ k1 k4 k3
    rcases List.mem_cons.mp hu with rfl | hu
    · exact three _ _ _ k7 k1 k5
    rw [List.mem_singleton.mp hu]
    exact three _ _ _ k6 k7 k1
  obtain ⟨us, hul, hus, hue⟩ := hN
  with_reducible refine s_cut (fun σ' H' => Same H4 H' ∧ ∃ up vs, H' up = some (.lst vs) ∧ up ≠ sa ∧ up ≠ ca ∧ UnitsAt K sa ca H' vs us ∧ σ' = [some (.ref sa), some (.ref p), some (.int (3 * m : Nat)), some (.int (at_ : Nat)), some (.int kd), some vw, some (.ref up), none, none, none]) ?_ ?_
  · intro nx' hnx
    with_reducible refine a_asg ?_
    with_reducible refine a_lst ?_
    refine (show UM K sa ca vw ⟨"worth", some c⟩ _ _ us by
      rw [hue]
      exact um_cons (ul_3 (ur_w rfl) ur_2 ur_1) (um_cons (ul_3 (ur_w rfl) ur_2 ur_1) (um_cons (ul_3 (ur_g rfl rfl) (ur_w rfl) ur_2) (um_cons (ul_3 ur_1 (ur_g rfl rfl) (ur_w rfl)) um_nil)))) H4 _ D4.src hvw fun vs H5 g5 k5 => ?_
    have hvl := Paired.length k5
    refine ⟨sz (show vs.length ≤ 100000 by omega), fun up hup => ?_⟩
    have s5 := D4.src.mono g5
    have g6 := Same.new (o := .lst vs) hup
    exact hnx _ _ ⟨g5.trans g6, up, vs, upd_same, (s5.ne hup).1, (s5.ne hup).2, Paired_mono (fun v rs ⟨p, h1, h2⟩ => ⟨p, h1, h2.mono s5 (Drw.of s5 g6)⟩) k5, rfl⟩
  rintro σ5 H5 ⟨g5, up, vs, hup, hu1, hu2, hUA, rfl⟩
  have s5 := D4.src.mono g5
  have hvl := Paired.length hUA
  walk_at "rd"
  refine ⟨by decide +kernel, fun PT hPT => ?_⟩
  have g6 := Same.new (o := .tup [.str "jump", .str "retry", .str "any", .str "keep"]) hPT
  have hPT6 : SqT K (upd H5 PT (.tup [.str "jump", .str "retry", .str "any", .str "keep"])) PT [.str "jump", .str "retry", .str "any", .str "keep"] := SqT.of upd_same
  generalize upd H5 PT (.tup [.str "jump", .str "retry", .str "any", .str "keep"]) = H6 at g6 hPT6 ⊢
  have g46 := g5.trans g6
  have s6 := s5.mono g6
  obtain ⟨xs4, hx4, hr4⟩ := R4.at_
  have l4 := hr4.len
  walk_at "rd"
  refine ⟨_, rfl, p, rfl, ⟨_, SqL.of (g46 _ _ hx4)⟩, fun D hD => lc_list (xs := xs4) (fun i H7 => Same H6 H7 ∧ ∃ acc, H7 D = some (.lst acc) ∧ Rows K H7 acc ((rs.take i).map (mvS (3 * m)))) ⟨Same.new hD, [], upd_same, .nil⟩ (fun i H7 _ z => SqL.of (z.1 _ _ (g46 _ _ hx4))) ?_ ?_⟩
  · rintro i x H7 hx ⟨g7, acc, hacc, hra7⟩
    obtain ⟨r, hri, a7, rfl, hsa7⟩ := Paired_at hr4 hx
    have hsa7' := Same.seqT (g46.trans g7) hsa7
    have hrm := List.mem_of_getElem? hri
    have fin : ∀ H8 v, Same H7 H8 → RowAt K H8 v (mvS (3 * m) r) → ∃ acc, H8 D = some (.lst acc) ∧ acc.length < sizeLine ∧ Same H6 (upd H8 D (.lst (acc ++ [v]))) ∧ ∃ acc', (upd H8 D (.lst (acc ++ [v]))) D = some (.lst acc') ∧ Rows K (upd H8 D (.lst (acc ++ [v]))) acc' ((rs.take (i + 1)).map (mvS (3 * m))) := fun H8 v g8 hv => by
      have h8 := g8 _ _ hacc
      have hal := hra7.len
      rw [List.length_map, List.length_take] at hal
      have st := SameT.lst (o := .lst (acc ++ [v])) h8
      refine ⟨acc, h8, small1000 (by omega), Same.mut (g7.trans g8) hD, _, upd_same, ?_⟩
      rw [take_succ_at hri, List.map_append]
      exact Paired_app (Rows.tup ((SameT.of g8).trans st) hra7) (.cons (sameT_row st hv) .nil)
    walk_at "rd"
    refine ⟨rfl, ?_⟩
    walk_at "rd"
    refine a_ixT hsa7' atI0 ?_
    walk_at "rd"
    refine b_inT (Same.seqT g7 hPT6) rfl (by decide +kernel) (b := plB r.w) rfl ?_
    walk_at "rd"
    refine a_iteB (fun e1 => ?_) (fun e1 => ?_)
    · obtain ⟨h1, h2⟩ := tgt_lt (hok r hrm) e1
      have hx : r.x = some (.int (tgt r : Nat)) := by rw [h2]; show some _ = some _; congr 2
      walk_at "rd"
      refine a_ixT hsa7' atI0 ?_
      walk_at "rd"
      refine a_ixT hsa7' (atI1 hx) ?_
      walk_at "rd"
      refine ⟨sz2, fun T hT => fin _ _ (Same.new hT) ⟨T, rfl, ?_⟩⟩
      unfold mvS
      rw [if_pos e1, show ((tgt r + 3 * m : Nat) : Int) = (tgt r : Int) + ((3 * m : Nat) : Int) by omega]
      exact SqT.of upd_same
    · walk_at "rd"
      refine fin _ _ (Same.refl _) ⟨a7, rfl, ?_⟩
      unfold mvS
      rw [if_neg (by rw [e1]; exact Bool.false_ne_true)]
      exact hsa7'
  rintro H7 ⟨g7, acc, hacc, hra7⟩
  rw [l4, List.take_length] at hra7
  have RM : RowsAt K sa ca H7 D (rs.map (mvS (3 * m))) := ⟨⟨acc, hacc, hra7⟩, (s6.ne hD).1, (s6.ne hD).2⟩
  have s7 := s6.mono g7
  have g57 := g6.trans g7
  have hUA7 : UnitsAt K sa ca H7 vs us := Paired_mono (fun v rs ⟨p, h1, h2⟩ => ⟨p, h1, h2.mono s5 (Drw.of s5 g57)⟩) hUA
  walk_at "rd"; walk_at "rc"
  refine ⟨sa, ca, kd, rfl, s7, rfl, by omega, by omega, fun ui H8 hu0 huk D8 => ?_⟩
  have huv : ui.toNat < vs.length := by omega
  have hui : ui = ((ui.toNat : Nat) : Int) := by omega
  obtain ⟨u, hu8, pu, hpu, RU⟩ := Paired_at hUA7 (List.getElem?_eq_getElem huv)
  refine a_ixL (SqL.of (D8.keep _ _ (g57 _ _ hup) hu1 hu2)) (by rw [hui]; exact atI_nat (List.getElem?_eq_getElem huv)) ?_
  rw [hpu]
  walk_at "rd"
  refine b_rI ⟨by decide, by decide⟩ ?_
  obtain ⟨xu, hxu, hru⟩ := (RU.mono s7 D8).at_
  have lu := hru.len
  obtain ⟨hu3, huok⟩ := hus u (List.mem_of_getElem? hu8)
  have hdiv : (((3 * m : Nat) : Int) / 3).toNat = m := by omega
  refine ⟨pu, _, _, rfl, rfl, hxu, by omega, by omega, ?_, fun pr hpr => ?_⟩
  · rw [hdiv, lu, hu3]
    exact sz (show 3 * m ≤ 100000 by omega)
  rw [hdiv]
  have g9 := Same.new (o := .lst (List.replicate m xu).flatten) hpr
  have D79 := D8.more g9
  obtain ⟨xm, hxm, hrm⟩ := (RM.mono s7 D79).at_
  have lm := hrm.len
  rw [List.length_map] at lm
  have hrep : Rows K (upd H8 pr (.lst (List.replicate m xu).flatten)) (List.replicate m xu).flatten (List.replicate m u).flatten := Rows.rep (Rows.mono g9 hru) m
  have lr := hrep.len
  have lr2 : (List.replicate m u).flatten.length = 3 * m := by rw [rep_len, hu3]; omega
  walk_at "rd"
  refine ⟨pr, D, _, _, rfl, rfl, upd_same, hxm, sz (show (List.replicate m xu).flatten.length + xm.length ≤ 100000 by omega), fun pz hpz => ?_⟩
  have g10 := Same.new (o := .lst ((List.replicate m xu).flatten ++ xm)) hpz
  have hln : ((List.replicate m u).flatten ++ rs.map (mvS (3 * m))).length = 3 * m + rs.length := by rw [List.length_append, lr2, List.length_map]
  refine q pz ((List.replicate m u).flatten ++ rs.map (mvS (3 * m))) _ ((D14.more (g46.trans g7)).trans (D79.more g10)) ⟨⟨_, upd_same, Rows.mono g10 (Paired_app hrep hrm)⟩, (D79.src.ne hpz).1, (D79.src.ne hpz).2⟩ (by rw [hln]; omega) (by rw [hln]; omega) fun r hr => ?_
  rw [hln]
  rcases List.mem_append.mp hr with hr | hr
  · exact huok r (rep_mem hr)
  · obtain ⟨r0, h0, rfl⟩ := List.mem_map.mp hr
    exact mvS_ok (hok r0 h0)
end
end T51

set_option Elab.async false
set_option linter.all false
set_option maxRecDepth 100000
set_option maxHeartbeats 4000000
namespace T51
open PySem PySem.Spec PyProof.Rows L2
local macro_rules | `(tactic| walk_at "rd1") => `(tactic| with_reducible first
  | refine a_seq ?_ | refine a_var rfl ?_ | refine a_c ?_ | refine a_op ?_ | refine a_cons ?_ | refine a_nil ?_ | refine a_cb ?_ | refine a_asg ?_ | refine a_gname ?_ | refine a_ret ?_
  | refine a_if ?_ | refine a_test ?_ | refine a_tB ?_ | refine a_blP ?_ | refine a_and ?_ | refine a_or ?_ | refine a_not ?_ | refine a_andV ?_ | refine a_orV ?_ | refine a_notV ?_ | refine a_ifE ?_
  | refine a_rI0 ?_ | refine a_eqS ?_ | refine a_eqI ?_ | refine a_neS ?_ | refine a_neI ?_ | refine a_call ?_ | refine a_tup ?_ | refine a_lst ?_ | refine a_chain ?_ | refine a_iteT ?_ | refine a_iteF ?_ | refine a_iteNT ?_ | refine a_iteNF ?_
  | refine a_drop ?_ | refine a_next ?_ | refine a_cont ?_ | refine a_break ?_ | refine a_retN ?_ | refine a_ipI ?_ | refine a_aug rfl ?_ | refine a_bm ?_ | refine a_bm0 ?_ | refine b_ord ?_ | refine b_int ?_ | refine b_isN ?_ | refine b_notN ?_ | refine a_un ?_ | refine b_rU ?_ | refine a_fld ?_ | refine a_sfld ?_ | refine a_meth ?_ | refine a_make ?_
  | refine a_dget ?_ | refine a_din ?_ | refine a_dnin ?_ | refine a_dput ?_ | refine a_yes ?_ | refine a_gsub ?_)
local macro_rules | `(tactic| walk_at "is") => `(tactic| with_reducible first
  | refine a_isi_int_int ?_ | refine a_isi_int_bool ?_ | refine a_isi_int_str ?_ | refine a_isi_int_list ?_ | refine a_isi_int_tuple ?_ | refine a_isi_int_dict ?_
  | refine a_isi_bl_int ?_ | refine a_isi_bl_bool ?_ | refine a_isi_bl_str ?_ | refine a_isi_bl_list ?_ | refine a_isi_bl_tuple ?_ | refine a_isi_bl_dict ?_
  | refine a_isi_str_int ?_ | refine a_isi_str_bool ?_ | refine a_isi_str_str ?_ | refine a_isi_str_list ?_ | refine a_isi_str_tuple ?_ | refine a_isi_str_dict ?_
  | refine a_isi_non_int ?_ | refine a_isi_non_bool ?_ | refine a_isi_non_str ?_ | refine a_isi_non_list ?_ | refine a_isi_non_tuple ?_ | refine a_isi_non_dict ?_)
local macro_rules | `(tactic| walk_at "rd") => `(tactic| repeat (walk_at "rd1"))
local macro_rules | `(tactic| walk_at "hp") => `(tactic| first
  | with_reducible assumption
  | with_reducible exact upd_same
  | (with_reducible refine SqL.of ?_; walk_at "hp")
  | (with_reducible refine SqT.of ?_; walk_at "hp")
  | (with_reducible refine Eq.trans (upd_ne ?_) ?_; rotate_left; focus (walk_at "hp"); walk_at "ne")
  | (with_reducible refine (by with_reducible assumption : Same _ _) _ _ ?_; walk_at "hp"))
local macro_rules | `(tactic| walk_at "ne") => `(tactic| first
  | with_reducible assumption
  | with_reducible exact Ne.symm (by with_reducible assumption)
  | (with_reducible refine ne_of_none ?_ (by with_reducible assumption); walk_at "hp")
  | (with_reducible refine Ne.symm (ne_of_none ?_ (by with_reducible assumption)); walk_at "hp"))
local macro_rules | `(tactic| walk_at "rc") => `(tactic| with_reducible first
  | refine a_s1 ?_ | refine a_s2 ?_ | refine a_s3 ?_ | refine a_s4 ?_ | refine a_s0 ?_ | refine a_m1 ?_ | refine a_m2 ?_ | refine a_m3 ?_ | refine a_m4 ?_)
local macro_rules | `(tactic| walk_at "rx1") => `(tactic| with_reducible first
  | refine a_var rfl ?_ | refine a_c ?_ | refine a_op ?_ | refine a_cons ?_ | refine a_nil ?_ | refine a_cb ?_ | refine a_asg ?_ | refine a_gname ?_ | refine a_ret ?_
  | refine a_if ?_ | refine a_test ?_ | refine a_tB ?_ | refine a_blP ?_ | refine a_and ?_ | refine a_or ?_ | refine a_not ?_ | refine a_andV ?_ | refine a_orV ?_ | refine a_notV ?_ | refine a_ifE ?_
  | refine a_rI0 ?_ | refine a_eqS ?_ | refine a_eqI ?_ | refine a_neS ?_ | refine a_neI ?_ | refine a_call ?_ | refine a_tup ?_ | refine a_lst ?_ | refine a_chain ?_ | refine a_iteT ?_ | refine a_iteF ?_ | refine a_iteNT ?_ | refine a_iteNF ?_
  | refine a_drop ?_ | refine a_next ?_ | refine a_cont ?_ | refine a_break ?_ | refine a_retN ?_ | refine a_ipI ?_ | refine a_aug rfl ?_ | refine a_bm ?_ | refine a_bm0 ?_ | refine b_ord ?_ | refine b_int ?_ | refine b_isN ?_ | refine b_notN ?_ | refine a_un ?_ | refine b_rU ?_ | refine a_fld ?_ | refine a_sfld ?_ | refine a_meth ?_ | refine a_make ?_
  | refine a_dget ?_ | refine a_din ?_ | refine a_dnin ?_ | refine a_dput ?_ | refine a_yes ?_ | refine a_gsub ?_)
local macro_rules | `(tactic| walk_at "rx") => `(tactic| repeat (walk_at "rx1"))
section
variable {P : Program} {w : World} {K : PySem.W.Frag} {mg : Str → Option Value} {base : Heap}
/-! ### what the law asks of the rows -/
def entM (m p : Nat) : List (Key × V) := [((Sum.inr "main" : Key), V.int (m : Nat)), (Sum.inr "p", .int (p : Nat))]
theorem ent_main {m p : Nat} : valV (entM m p) (Sum.inr "main" : Key) = some (.int (m : Nat)) := rfl
theorem ent_p {m p : Nat} : valV (entM m p) (Sum.inr "p" : Key) = some (.int (p : Nat)) := rfl
abbrev N__law_next : List Str := ["rows", "at", "places"]
abbrev S__law_next : Scope := defScope (top 79)
theorem sc__law_next : FnScope N__law_next ["rows", "at"] (defScope (top 79)) := ⟨rfl, rfl, rfl, by decide +kernel, rfl, by decide +kernel, by decide +kernel⟩
def f_next (K : PySem.W.Frag) (l a : V) (H : Hp) (Q : VK) : Prop := ∃ rs k, LnAt K H l rs ∧ Valid rs ∧ a = .int (k : Nat) ∧ k < rs.length ∧ ∀ v H', Same H H' → H v = none → H' v = some (.lst (nV (adds rs k))) → Q (.ref v) H'
theorem ok_next (M : Md w K mg) : Cal P w K mg base 1 "_law_next" ["rows", "at"] (s2 (f_next K)) := by
  obtain ⟨fd, F⟩ := M.fd__law_next
  refine ⟨⟨_, fd, fn_of_d F sc__law_next s2_len (fun cdv A outer s H vs Q E hr h => ?_), M.gl__law_next, F.kp, F.bindsN fun _ _ _ _ _ _ us hl => match us, hl with | [_, _], _ => rfl⟩⟩
  have hu := hu_of hr
  have nd := sc__law_next.nd
  obtain ⟨_, _, rfl, rs, k, ⟨la, xs, rfl, hl, hr2⟩, hv, rfl, hk, q⟩ := h
  obtain ⟨r, hr3, hrm, hw, ht⟩ := wA_of hk
  obtain ⟨a, hxa, hsa⟩ := hr2.at hr3
  refine ⟨_, (pss_cons (ps_set (i := 2) nd rfl (Or.inl rfl) (pe_ifExp (pt_cmpR (op_inK (K := K) rfl) (pe_ix (ix_tupK (K := K) rfl) (pe_ix (ix_listK (K := K) rfl) (pv 0) (pv 1) (fun _ _ => rfl)) pe_int (fun _ _ => rfl)) (pe_tup (pa_cons pe_str (pa_cons pe_str (pa_cons pe_str (pa_cons pe_str pa_nil))))) (by first | rfl | exact nomark _)) (pe_lst (pa_cons (pe_ix (ix_tupK (K := K) rfl) (pe_ix (ix_listK (K := K) rfl) (pv 0) (pv 1) (fun _ _ => rfl)) pe_int (fun _ _ => rfl)) pa_nil)) (pe_lst pa_nil))) (pss_cons (ps_if (pt_cmpR (op_notInK (K := K) rfl) (pe_ix (ix_tupK (K := K) rfl) (pe_ix (ix_listK (K := K) rfl) (pv 0) (pv 1) (fun _ _ => rfl)) pe_int (fun _ _ => rfl)) (pe_tup (pa_cons pe_str (pa_cons pe_str (pa_cons pe_str (pa_cons pe_str (pa_cons pe_str (pa_cons pe_str pa_nil))))))) (by first | rfl | exact nomark _)) (pss_one (ps_expr (pe_bm PySem.F.plainAttrs_list PySem.F.slot_list_append PySem.F.type_list_append mt_append (pv 2) (pa_cons (pe_op op_add (pv 1) pe_int) pa_nil)))) pss_nil) (pss_one (ps_ret (pv 2))))), ?_⟩
  walk_at "rx"
  with_reducible refine s_cut (fun σ' H' => Same H H' ∧ ∃ p, H p = none ∧ H' p = some (.lst (nV (if plB (wA rs k) = true then [tA rs k] else []))) ∧ σ' = [some (.ref la), some (.int k), some (.ref p)]) ?_ ?_
  · intro nx' hnx
    walk_at "rd"
    refine a_ixL (SqL.of hl) (atI_nat hxa) ?_
    walk_at "rd"
    refine a_ixT hsa atI0 ?_
    walk_at "rd"
    refine ⟨by decide +kernel, fun T hT => ?_⟩
    have g1 := Same.new (o := .tup [.str "jump", .str "retry", .str "any", .str "keep"]) hT
    refine b_inT (SqT.of upd_same) rfl (by decide +kernel) (b := plB r.w) rfl ?_
    generalize upd H T (.tup [.str "jump", .str "retry", .str "any", .str "keep"]) = H1 at g1 ⊢
    walk_at "rd"
    refine a_iteB (fun e1 => ?_) (fun e1 => ?_)
    · obtain ⟨hx, hlt⟩ := pl_x hv hrm e1
      walk_at "rd"
      refine a_ixL (SqL.of (g1 _ _ hl)) (atI_nat hxa) ?_
      walk_at "rd"
      refine a_ixT (Same.seqT g1 hsa) (atI1 hx) ?_
      walk_at "rd"
      refine ⟨sz1, fun p hp => hnx _ _ ⟨Same.more g1 hp, p, Same.free g1 hp, ?_, rfl⟩⟩
      rw [upd_same, hw, if_pos e1, ht]
      rfl
    · walk_at "rd"
      refine ⟨by decide, fun p hp => hnx _ _ ⟨Same.more g1 hp, p, Same.free g1 hp, ?_, rfl⟩⟩
      rw [upd_same, hw, if_neg (by rw [e1]; exact Bool.false_ne_true)]
      rfl
  rintro σ1 H1 ⟨g1, p, hp0, hp1, rfl⟩
  walk_at "rd"
  refine a_ixL (SqL.of (g1 _ _ hl)) (atI_nat hxa) ?_
  walk_at "rd"
  refine a_ixT (Same.seqT g1 hsa) atI0 ?_
  walk_at "rd"
  refine ⟨by decide +kernel, fun T hT => ?_⟩
  have g2 := Same.new (o := .tup [.str "jump", .str "any", .str "fail", .str "back", .str "fall", .str "yield"]) hT
  refine b_niT (SqT.of upd_same) rfl (by decide +kernel) (b := endB r.w) rfl ?_
  have hp2 := g2 _ _ hp1
  have g12 := g1.trans g2
  generalize upd H1 T (.tup [.str "jump", .str "any", .str "fail", .str "back", .str "fall", .str "yield"]) = H2 at g12 hp2 ⊢
  walk_at "rd"
  cases he : endB r.w with
  | true =>
    walk_at "rd"
    refine q _ _ g12 hp0 ?_
    rw [hp2]
    unfold adds
    rw [if_neg (c := endB (wA rs k) = false) (by rw [hw, he]; exact Bool.noConfusion), List.append_nil]
  | false =>
    walk_at "rd"
    refine b_appendE hp2 ?_
    walk_at "rd"
    refine b_app hp2 (by unfold nV; rw [List.length_map]; split <;> simp) ?_
    walk_at "rd"
    refine q _ _ (Same.mut g12 hp0) hp0 ?_
    rw [upd_same]
    unfold adds
    rw [if_pos (c := endB (wA rs k) = false) (by rw [hw, he])]
    unfold nV
    rw [List.map_append]
    rfl
abbrev N__law_all_reached : List Str := ["rows", "entries", "found", "row", "waiting", "at"]
abbrev S__law_all_reached : Scope := defScope (top 80)
theorem sc__law_all_reached : FnScope N__law_all_reached ["rows", "entries"] (defScope (top 80)) := ⟨rfl, rfl, rfl, by decide +kernel, rfl, by decide +kernel, by decide +kernel⟩
def f_allr (K : PySem.W.Frag) (l e : V) (H : Hp) (Q : VK) : Prop := ∃ rs ea m p, LnAt K H l rs ∧ Valid rs ∧ e = .ref ea ∧ H ea = some (.dK (entM m p)) ∧ m < rs.length ∧ p < rs.length ∧ (∀ i, i < rs.length → Reach rs [m, p] i) ∧ ∀ H', Same H H' → Q (.bl true) H'
theorem fl_app {bs : List Bool} {i : Nat} (h : i < bs.length) : fl (bs ++ [true]) i = fl bs i := by
  unfold fl
  rw [List.getD_eq_getElem?_getD, List.getD_eq_getElem?_getD, List.getElem?_append_left h]
theorem ok_allr (M : Md w K mg) (C__law_next : Cal P w K mg base 1 "_law_next" ["rows", "at"] (s2 (f_next K))) : Cal P w K mg base 2 "_law_all_reached" ["rows", "entries"] (s2 (f_allr K)) := by
  obtain ⟨fd, F⟩ := M.fd__law_all_reached
  refine ⟨⟨_, fd, fn_of_d F sc__law_all_reached s2_len (fun cdv A outer s H vs Q E hr h => ?_), M.gl__law_all_reached, F.kp, F.bindsN fun _ _ _ _ _ _ us hl => match us, hl with | [_, _], _ => rfl⟩⟩
  have hu := hu_of hr
  have nd := sc__law_all_reached.nd
  obtain ⟨_, _, rfl, rs, ea, m, p, ⟨la, xs, rfl, hl, hr2⟩, hv, rfl, he, hm, hp, hre, q⟩ := h
  have hlen := hr2.len
  have hn9 := hv.2.1
  refine ⟨_, (pss_cons (ps_set (i := 2) nd rfl (Or.inl rfl) (pe_op op_cat (pe_lc (own := [("row", 3)]) (g := gName 3) (tt := tYes) rfl nd (pi_list (pv 0)) (blkOk_by (own := [("row", 3)]) (N := N__law_all_reached) (sc := S__law_all_reached) (by decide +kernel)) (fun _ _ _ _ _ => (pg_name (i := 3) nd rfl (Or.inl rfl))) (fun _ _ _ _ _ => pts_nil) (fun _ _ _ _ _ => pe_bl)) (pe_lst (pa_cons pe_bl pa_nil)))) (pss_cons (ps_set (i := 4) nd rfl (Or.inl rfl) (pe_lst (pa_cons (pe_dget hu (pv 1) pe_str (fun _ _ => rfl)) (pa_cons (pe_dget hu (pv 1) pe_str (fun _ _ => rfl)) pa_nil)))) (pss_cons (ps_while PassesOwn.never (pt_cmpR op_gt (pe_callB (call_lenK (K := K) rfl) rfl M.fr_len PySem.boot_len (pa_cons (pv 4) pa_nil)) pe_int (nomark _)) (pss_cons (ps_set (i := 5) nd rfl (Or.inl rfl) (pe_bm0 PySem.F.plainAttrs_list PySem.F.slot_list_pop PySem.F.type_list_pop mt_pop (pv 4))) (pss_one (ps_if (pt_not (pt_val (pe_ix (ix_listK (K := K) rfl) (pv 2) (pv 5) (fun _ _ => rfl)))) (pss_cons (ps_asg pe_bl (pg_sub (pv 2) (pv 5) set_list)) (pss_one (ps_expr (pe_bm PySem.F.plainAttrs_list PySem.F.slot_list_extend PySem.F.type_list_extend mt_extend (pv 4) (pa_cons (pe_cl C__law_next (hr.mono (by first | decide | omega)) rfl (pa_cons (pv 0) (pa_cons (pv 5) pa_nil))) pa_nil))))) pss_nil)))) (pss_one (ps_ret (pe_callB (cr_all rfl) rfl M.fr_all (by decide +kernel) (pa_cons (pv 2) pa_nil))))))), ?_⟩
  walk_at "rd"
  refine ⟨_, rfl, la, rfl, ⟨_, SqL.of hl⟩, fun D hD => lc_list (xs := xs) (fun i H7 => Same H H7 ∧ H7 D = some (.lst ((List.replicate i false).map V.bl))) ⟨Same.new hD, upd_same⟩ (fun i H7 _ z => SqL.of (z.1 _ _ hl)) ?_ ?_⟩
  · rintro i x H7 hx ⟨g7, hacc⟩
    have hi := (List.getElem?_eq_some_iff.mp hx).1
    walk_at "rd"
    refine ⟨rfl, ?_⟩
    walk_at "rd"
    refine ⟨_, hacc, by rw [List.length_map, List.length_replicate]; exact Nat.lt_of_le_of_lt (show i ≤ 9000 by omega) (by decide), Same.mut g7 hD, ?_⟩
    rw [upd_same, List.replicate_succ', List.map_append]
    rfl
  rintro H1 ⟨g1, hD1⟩
  rw [hlen] at hD1
  walk_at "rd"
  refine ⟨sz1, fun E1 hE1 => ?_⟩
  have nDE := ne_of_none hD1 hE1
  have g2 := Same.new (o := .lst [.bl true]) hE1
  refine ⟨D, E1, _, _, rfl, rfl, g2 _ _ hD1, upd_same, ?_, fun fb hfb => ?_⟩
  · rw [List.length_map, List.length_replicate]
    exact sz (show rs.length + 1 ≤ 100000 by omega)
  have hfH := Same.free (g1.trans g2) hfb
  have g3 := Same.more (o := .lst ((List.replicate rs.length false).map V.bl ++ [.bl true])) (g1.trans g2) hfb
  have hf3 : (upd (upd H1 E1 (.lst [.bl true])) fb (.lst ((List.replicate rs.length false).map V.bl ++ [.bl true]))) fb = some (.lst ((List.replicate rs.length false ++ [true]).map V.bl)) := by rw [upd_same, List.map_append]; rfl
  generalize upd (upd H1 E1 (.lst [.bl true])) fb (.lst ((List.replicate rs.length false).map V.bl ++ [.bl true])) = H3 at g3 hf3 ⊢
  walk_at "rd"
  refine b_dgetS (g3 _ _ he) ent_main ?_
  walk_at "rd"
  refine b_dgetS (g3 _ _ he) ent_p ?_
  walk_at "rd"
  refine ⟨sz2, fun wl hwl => ?_⟩
  have hwH := Same.free g3 hwl
  have nfw := ne_of_none hf3 hwl
  have g4 := Same.more (o := .lst [.int (m : Nat), .int (p : Nat)]) g3 hwl
  have hf4 : (upd H3 wl (.lst [.int (m : Nat), .int (p : Nat)])) fb = _ := (upd_ne nfw).trans hf3
  have hw4 : (upd H3 wl (.lst [.int (m : Nat), .int (p : Nat)])) wl = some (.lst (nV [m, p])) := upd_same
  generalize upd H3 wl (.lst [.int (m : Nat), .int (p : Nat)]) = H4 at g4 hf4 hw4 ⊢
  let W : Nat → L2.St → Hp → Prop := fun d σ H5 => ∃ bs ws, ∃ v4 v5 : Option V, d = (rs.length - cntT bs) * 3 + ws.length ∧ ws.length ≤ 2 + 2 * cntT bs ∧ (∀ x ∈ ws, x ≤ rs.length) ∧ Same H H5 ∧ H5 fb = some (.lst ((bs ++ [true]).map V.bl)) ∧ H5 wl = some (.lst (nV ws)) ∧ Srch rs [m, p] bs ws ∧
    σ = [some (.ref la), some (.ref ea), some (.ref fb), v4, some (.ref wl), v5]
  walk_at "rd"
  refine ⟨W, ⟨_, List.replicate rs.length false, [m, p], _, _, rfl, by simp, fun x hx => ?_, g4, hf4, hw4, ⟨by rw [List.length_replicate], fun i hi => ?_, fun i hi hlt => .start hi hlt, fun p hp _ => .inr hp, fun p hp => ?_, fun p hp => ?_⟩, rfl⟩, ?_⟩
  · have : x = m ∨ x = p := by simpa using hx
    omega
  · rw [fl_rep] at hi; cases hi
  · rw [fl_rep] at hp; cases hp
  · rw [fl_rep] at hp; cases hp
  rintro d σ H5 ⟨bs, ws, v4, v5, rfl, hwb, hwn, g5, hf5, hw5, S, rfl⟩
  have hcb := cntT_le bs
  rw [S.len] at hcb
  have hfl : (bs ++ [true]).length = rs.length + 1 := by rw [List.length_append, S.len]; rfl
  walk_at "rd"
  refine b_lenL (SqL.of hw5) ?_
  walk_at "rd"
  refine a_ite (fun e0 => ?_) (fun e0 => ?_)
  · rcases List.eq_nil_or_concat ws with rfl | ⟨ws', k, rfl⟩
    · exact absurd e0 (by decide)
    rw [List.concat_eq_append] at *
    with_reducible refine ⟨fun σ' H' => ∃ d, d < (rs.length - cntT bs) * 3 + (ws' ++ [k]).length ∧ W d σ' H', fun σ' H' ⟨d, h1, h2⟩ => ⟨d, h1, h2⟩, ?_⟩
    have hkn : k ≤ rs.length := hwn k (List.mem_append_right _ (List.mem_singleton.mpr rfl))
    have hwn' : ∀ x ∈ ws', x ≤ rs.length := fun x hx => hwn x (List.mem_append_left _ hx)
    rw [List.length_append, List.length_singleton] at *
    have hw5' : H5 wl = some (.lst (nV ws' ++ [.int (k : Nat)])) := by rw [hw5]; unfold nV; rw [List.map_append]; rfl
    walk_at "rd"
    refine ⟨.inl ⟨rfl, _, SqL.of hw5'⟩, wl, _, .int (k : Nat), rfl, rfl, hw5', by simp, ?_⟩
    rw [List.dropLast_concat]
    have g6 : Same H (upd H5 wl (.lst (nV ws'))) := Same.mut g5 hwH
    have hf6 : (upd H5 wl (.lst (nV ws'))) fb = _ := (upd_ne nfw).trans hf5
    have hw6 : (upd H5 wl (.lst (nV ws'))) wl = some (.lst (nV ws')) := upd_same
    generalize upd H5 wl (.lst (nV ws')) = H6 at g6 hf6 hw6 ⊢
    walk_at "rd"
    refine a_ixL (SqL.of hf6) (bat (fl_at (by rw [List.length_append, List.length_singleton, S.len]; omega))) ?_
    walk_at "rd"
    refine a_iteBN (fun e1 => ?_) (fun e1 => ?_)
    · have hkl : k < rs.length := by
        rcases Nat.lt_or_ge k rs.length with h | h
        · exact h
        · exfalso
          have : k = bs.length := by rw [S.len]; omega
          unfold fl at e1
          rw [this, List.getD_eq_getElem?_getD, List.getElem?_append_right (Nat.le_refl _), Nat.sub_self] at e1
          cases e1
      have hkb : k < bs.length := by rw [S.len]; exact hkl
      rw [fl_app hkb] at e1
      have hcs := cntT_set hkb e1
      have hc2 : cntT (bs.set k true) ≤ rs.length := by have := cntT_le (bs.set k true); rw [List.length_set, S.len] at this; exact this
      obtain ⟨r, hr3, hrm, hw, ht⟩ := wA_of hkl
      have htl : plB (wA rs k) = true → tA rs k < rs.length := fun z => by rw [ht]; exact (pl_x hv hrm (by rw [← hw]; exact z)).2
      walk_at "rd"
      refine b_set hf6 (by rw [List.length_map, List.length_append, List.length_singleton, S.len]; omega) ?_
      have hse : ((bs ++ [true]).map V.bl).set k (.bl true) = (bs.set k true ++ [true]).map V.bl := by rw [map_setT, List.set_append_left _ _ hkb]
      rw [hse]
      have g7 : Same H (upd H6 fb (.lst ((bs.set k true ++ [true]).map V.bl))) := Same.mut g6 hfH
      have hf7 : (upd H6 fb (.lst ((bs.set k true ++ [true]).map V.bl))) fb = some (.lst ((bs.set k true ++ [true]).map V.bl)) := upd_same
      have hw7 : (upd H6 fb (.lst ((bs.set k true ++ [true]).map V.bl))) wl = _ := (upd_ne nfw.symm).trans hw6
      generalize upd H6 fb (.lst ((bs.set k true ++ [true]).map V.bl)) = H7 at g7 hf7 hw7 ⊢
      walk_at "rd"
      refine ⟨.inl ⟨rfl, _, SqL.of hw7⟩, ?_⟩
      walk_at "rd"; walk_at "rc"
      refine ⟨rs, k, ⟨la, xs, rfl, g7 _ _ hl, Rows.mono g7 hr2⟩, hv, rfl, hkl, fun al H8 g8 nal hal => ?_⟩
      walk_at "rd"
      have hal2 : (adds rs k).length ≤ 2 := by
        unfold adds
        rw [List.length_append]
        split <;> split <;> simp
      have han : ∀ x ∈ adds rs k, x ≤ rs.length := fun x hx => by
        unfold adds at hx
        rcases List.mem_append.mp hx with hx | hx
        · by_cases c : plB (wA rs k) = true
          · rw [if_pos c] at hx
            rw [List.mem_singleton.mp hx]
            exact Nat.le_of_lt (htl c)
          · rw [if_neg c] at hx; simp at hx
        · by_cases c : endB (wA rs k) = false
          · rw [if_pos c] at hx
            rw [List.mem_singleton.mp hx]
            omega
          · rw [if_neg c] at hx; simp at hx
      refine ⟨wl, al, _, _, rfl, rfl, g8 _ _ hw7, hal, ?_, ?_⟩
      · unfold nV
        rw [List.length_map, List.length_map]
        exact sz (show ws'.length + (adds rs k).length ≤ 100000 by omega)
      refine ⟨_, ?_, bs.set k true, ws' ++ adds rs k, _, _, rfl, ?_, fun x hx => ?_, Same.mut (g7.trans g8) hwH, by rw [upd_ne nfw]; exact g8 _ _ hf7, by rw [upd_same]; unfold nV; rw [List.map_append], S.take hkl htl, rfl⟩
      · rw [hcs, List.length_append]; omega
      · rw [hcs, List.length_append]; omega
      · rcases List.mem_append.mp hx with hx | hx
        · exact hwn' x hx
        · exact han x hx
    · walk_at "rd"
      refine ⟨_, ?_, bs, ws', _, _, rfl, ?_, hwn', g6, hf6, hw6, S.skip fun h => ?_, rfl⟩
      · omega
      · omega
      · rw [fl_app (by rw [S.len]; exact h)] at e1
        exact e1
  · have hws : ws = [] := List.eq_nil_of_length_eq_zero (by unfold nV at e0; rw [List.length_map] at e0; omega)
    subst hws
    have R := S.done
    walk_at "rd"
    refine ⟨fb, bs ++ [true], rfl, SqL.of hf5, ?_⟩
    have : (bs ++ [true]).all id = true := by
      rw [List.all_eq_true]
      intro b hb
      rcases List.mem_append.mp hb with hb | hb
      · obtain ⟨i, hi, rfl⟩ := List.mem_iff_getElem.mp hb
        have h1 := R.full i (hre i (by rw [← R.len]; exact hi))
        have h2 := fl_at hi
        rw [List.getElem?_eq_getElem hi, h1] at h2
        exact Option.some.inj h2
      · rw [List.mem_singleton.mp hb]; rfl
    rw [this]
    exact q _ g5
end

end T51

set_option Elab.async false
set_option linter.all false
set_option maxRecDepth 100000
set_option maxHeartbeats 4000000
namespace T51
open PySem PySem.Spec PyProof.Rows L2
local macro_rules | `(tactic| walk_at "rd1") => `(tactic| with_reducible first
  | refine a_seq ?_ | refine a_var rfl ?_ | refine a_c ?_ | refine a_op ?_ | refine a_cons ?_ | refine a_nil ?_ | refine a_cb ?_ | refine a_asg ?_ | refine a_gname ?_ | refine a_ret ?_
  | refine a_if ?_ | refine a_test ?_ | refine a_tB ?_ | refine a_blP ?_ | refine a_and ?_ | refine a_or ?_ | refine a_not ?_ | refine a_andV ?_ | refine a_orV ?_ | refine a_notV ?_ | refine a_ifE ?_
  | refine a_rI0 ?_ | refine a_eqS ?_ | refine a_eqI ?_ | refine a_neS ?_ | refine a_neI ?_ | refine a_call ?_ | refine a_tup ?_ | refine a_lst ?_ | refine a_chain ?_ | refine a_iteT ?_ | refine a_iteF ?_ | refine a_iteNT ?_ | refine a_iteNF ?_
  | refine a_drop ?_ | refine a_next ?_ | refine a_cont ?_ | refine a_break ?_ | refine a_retN ?_ | refine a_ipI ?_ | refine a_aug rfl ?_ | refine a_bm ?_ | refine a_bm0 ?_ | refine b_ord ?_ | refine b_int ?_ | refine b_isN ?_ | refine b_notN ?_ | refine a_un ?_ | refine b_rU ?_ | refine a_fld ?_ | refine a_sfld ?_ | refine a_meth ?_ | refine a_make ?_
  | refine a_dget ?_ | refine a_din ?_ | refine a_dnin ?_ | refine a_dput ?_ | refine a_yes ?_ | refine a_gsub ?_)
local macro_rules | `(tactic| walk_at "is") => `(tactic| with_reducible first
  | refine a_isi_int_int ?_ | refine a_isi_int_bool ?_ | refine a_isi_int_str ?_ | refine a_isi_int_list ?_ | refine a_isi_int_tuple ?_ | refine a_isi_int_dict ?_
  | refine a_isi_bl_int ?_ | refine a_isi_bl_bool ?_ | refine a_isi_bl_str ?_ | refine a_isi_bl_list ?_ | refine a_isi_bl_tuple ?_ | refine a_isi_bl_dict ?_
  | refine a_isi_str_int ?_ | refine a_isi_str_bool ?_ | refine a_isi_str_str ?_ | refine a_isi_str_list ?_ | refine a_isi_str_tuple ?_ | refine a_isi_str_dict ?_
  | refine a_isi_non_int ?_ | refine a_isi_non_bool ?_ | refine a_isi_non_str ?_ | refine a_isi_non_list ?_ | refine a_isi_non_tuple ?_ | refine a_isi_non_dict ?_)
local macro_rules | `(tactic| walk_at "rd") => `(tactic| repeat (walk_at "rd1"))
local macro_rules | `(tactic| walk_at "hp") => `(tactic| first
  | with_reducible assumption
  | with_reducible exact upd_same
  | (with_reducible refine SqL.of ?_; walk_at "hp")
  | (with_reducible refine SqT.of ?_; walk_at "hp")
  | (with_reducible refine Eq.trans (upd_ne ?_) ?_; rotate_left; focus (walk_at "hp"); walk_at "ne")
  | (with_reducible refine (by with_reducible assumption : Same _ _) _ _ ?_; walk_at "hp"))
local macro_rules | `(tactic| walk_at "ne") => `(tactic| first
  | with_reducible assumption
  | with_reducible exact Ne.symm (by with_reducible assumption)
  | (with_reducible refine ne_of_none ?_ (by with_reducible assumption); walk_at "hp")
  | (with_reducible refine Ne.symm (ne_of_none ?_ (by with_reducible assumption)); walk_at "hp"))
local macro_rules | `(tactic| walk_at "rc") => `(tactic| with_reducible first
  | refine a_s1 ?_ | refine a_s2 ?_ | refine a_s3 ?_ | refine a_s4 ?_ | refine a_s0 ?_ | refine a_m1 ?_ | refine a_m2 ?_ | refine a_m3 ?_ | refine a_m4 ?_)
local macro_rules | `(tactic| walk_at "rx1") => `(tactic| with_reducible first
  | refine a_var rfl ?_ | refine a_c ?_ | refine a_op ?_ | refine a_cons ?_ | refine a_nil ?_ | refine a_cb ?_ | refine a_asg ?_ | refine a_gname ?_ | refine a_ret ?_
  | refine a_if ?_ | refine a_test ?_ | refine a_tB ?_ | refine a_blP ?_ | refine a_and ?_ | refine a_or ?_ | refine a_not ?_ | refine a_andV ?_ | refine a_orV ?_ | refine a_notV ?_ | refine a_ifE ?_
  | refine a_rI0 ?_ | refine a_eqS ?_ | refine a_eqI ?_ | refine a_neS ?_ | refine a_neI ?_ | refine a_call ?_ | refine a_tup ?_ | refine a_lst ?_ | refine a_chain ?_ | refine a_iteT ?_ | refine a_iteF ?_ | refine a_iteNT ?_ | refine a_iteNF ?_
  | refine a_drop ?_ | refine a_next ?_ | refine a_cont ?_ | refine a_break ?_ | refine a_retN ?_ | refine a_ipI ?_ | refine a_aug rfl ?_ | refine a_bm ?_ | refine a_bm0 ?_ | refine b_ord ?_ | refine b_int ?_ | refine b_isN ?_ | refine b_notN ?_ | refine a_un ?_ | refine b_rU ?_ | refine a_fld ?_ | refine a_sfld ?_ | refine a_meth ?_ | refine a_make ?_
  | refine a_dget ?_ | refine a_din ?_ | refine a_dnin ?_ | refine a_dput ?_ | refine a_yes ?_ | refine a_gsub ?_)
local macro_rules | `(tactic| walk_at "rx") => `(tactic| repeat (walk_at "rx1"))
section
variable {P : Program} {w : World} {K : PySem.W.Frag} {mg : Str → Option Value} {base : Heap}
/-! ### rings; tidy -/
abbrev N__law_is_ring : List Str := ["rows", "at", "turn"]
abbrev S__law_is_ring : Scope := defScope (top 81)
theorem sc__law_is_ring : FnScope N__law_is_ring ["rows", "at"] (defScope (top 81)) := ⟨rfl, rfl, rfl, by decide +kernel, rfl, by decide +kernel, by decide +kernel⟩
def f_ring (K : PySem.W.Frag) (l a : V) (H : Hp) (Q : VK) : Prop := ∃ rs k, LnAt K H l rs ∧ Valid rs ∧ a = .int (k : Nat) ∧ k < rs.length ∧ Endless rs k ∧ Q (.bl true) H
theorem ok_ring (M : Md w K mg) : Cal P w K mg base 1 "_law_is_ring" ["rows", "at"] (s2 (f_ring K)) := by
  obtain ⟨fd, F⟩ := M.fd__law_is_ring
  refine ⟨⟨_, fd, fn_of_d F sc__law_is_ring s2_len (fun cdv A outer s H vs Q E hr h => ?_), M.gl__law_is_ring, F.kp, F.bindsN fun _ _ _ _ _ _ us hl => match us, hl with | [_, _], _ => rfl⟩⟩
  have hu := hu_of hr
  have nd := sc__law_is_ring.nd
  obtain ⟨_, _, rfl, rs, k, ⟨la, xs, rfl, hl, hr2⟩, hv, rfl, hk, hE, q⟩ := h
  have hlen := hr2.len
  have hn9 := hv.2.1
  refine ⟨_, (pss_cons (ps_for PassesOwn.never rfl (pi_range1 rfl M.fr_range (pa_cons (pe_callB (call_lenK (K := K) rfl) rfl M.fr_len PySem.boot_len (pa_cons (pv 0) pa_nil)) pa_nil)) (pg_name (i := 2) nd rfl (Or.inl rfl)) (pss_cons (ps_if (pt_cmpR op_ne (pe_ix (ix_tupK (K := K) rfl) (pe_ix (ix_listK (K := K) rfl) (pv 0) (pv 1) (fun _ _ => rfl)) pe_int (fun _ _ => rfl)) pe_str (nomark _)) (pss_one (ps_ret pe_bl)) pss_nil) (pss_one (ps_set (i := 1) nd rfl (Or.inl rfl) (pe_ix (ix_tupK (K := K) rfl) (pe_ix (ix_listK (K := K) rfl) (pv 0) (pv 1) (fun _ _ => rfl)) pe_int (fun _ _ => rfl)))))) (pss_one (ps_ret pe_bl))), ?_⟩
  walk_at "rd"
  refine ⟨_, rfl, _, _, rfl, .inl (SqL.of hl), _, rfl, by omega, by omega, ?_⟩
  rw [Int.toNat_natCast, hlen]
  refine for_range (lo := 0) (n := rs.length) (fun i σ H2 => H2 = H ∧ ∃ v, σ = [some (.ref la), some (.int (itJ rs k i : Nat)), v]) ⟨rfl, _, rfl⟩ ?_ ?_
  · rintro i σ H2 hi ⟨rfl, v, rfl⟩
    have hJ := hE i
    have hlt := isJ_lt hJ
    obtain ⟨r, hr3, hrm, hw, ht⟩ := wA_of hlt
    obtain ⟨a, hxa, hsa⟩ := hr2.at hr3
    have hj : r.w = "jump" := hw.symm.trans hJ
    obtain ⟨hx, _⟩ := pl_x hv hrm (by rw [hj]; exact jump_pl)
    walk_at "rd"
    refine a_ixL (SqL.of hl) (atI_nat hxa) ?_
    walk_at "rd"
    refine a_ixT hsa atI0 ?_
    walk_at "rd"
    refine a_iteN (fun e => absurd hj e) (fun _ => ?_)
    walk_at "rd"
    refine a_ixL (SqL.of hl) (atI_nat hxa) ?_
    walk_at "rd"
    refine a_ixT hsa (atI1 hx) ?_
    walk_at "rd"
    refine ⟨rfl, some (.int ((0 : Int) + (i : Nat))), ?_⟩
    show [some (V.ref la), some (.int (tgt r : Nat)), _] = [some (V.ref la), some (.int (tA rs (itJ rs k i) : Nat)), _]
    rw [ht]
  · rintro σ H2 ⟨rfl, v, rfl⟩
    walk_at "rd"
    exact q
/-- what straightF leaves alone -/
theorem str_fix {rs : List Ins} (hv : Valid rs) (h : straightF rs = rs) {i : Nat} {r : Ins} (e : rs[i]? = some r) (p : plB r.w = true) : (¬ isJ rs (tgt r) ∨ Endless rs (tgt r)) ∧ ¬ (r.w = "retry" ∧ i + 1 < rs.length ∧ wA rs (i + 1) = "fail") := by
  have h1 := straightF_at e
  rw [h, e] at h1
  have h2 : r = oneF rs i r := Option.some.inj h1
  have hw0 : wt (oneF rs i r) = wt r := by rw [← h2]
  obtain ⟨_, h4⟩ := (one_wt hv e).2 hw0
  obtain ⟨h5, _, h7⟩ := h4 p
  have h8 : tgt r = landF rs (tgt r) := by
    have : tgt (oneF rs i r) = landF rs (tgt r) := by
      rw [h5]
      show ((landF rs (tgt r) : Nat) : Int).toNat = _
      omega
    rw [← h2] at this
    exact this
  refine ⟨?_, h7⟩
  rcases landF_spec rs (tgt r) with ⟨m, _, k2, k3⟩ | ⟨k1, _⟩
  · rw [← k3, ← h8] at k2
    exact .inl k2
  · exact .inr k1
def plT (rs : List Ins) : List Nat := rs.filterMap fun r => if plB r.w = true then some (tgt r) else none
theorem int_in {i : Nat} {ls : List Nat} (h : i ∈ ls) : inV (.int (i : Nat)) (nV ls) = true := by
  unfold inV
  rw [List.any_eq_true]
  refine ⟨.int (i : Nat), List.mem_map.mpr ⟨i, h, rfl⟩, ?_⟩
  show eqV (.int (i : Nat)) (.int (i : Nat)) = true
  simp [eqV]
theorem nV_flat (ls : List Nat) : (nV ls).all flatV = true := by
  rw [List.all_eq_true]
  intro v hv
  obtain ⟨i, _, rfl⟩ := List.mem_map.mp hv
  rfl
abbrev N__law_tidy : List Str := ["rows", "entries", "places", "row", "rings", "at", "last", "behind"]
abbrev S__law_tidy : Scope := defScope (top 82)
theorem sc__law_tidy : FnScope N__law_tidy ["rows", "entries"] (defScope (top 82)) := ⟨rfl, rfl, rfl, by decide +kernel, rfl, by decide +kernel, by decide +kernel⟩
def f_tidy (K : PySem.W.Frag) (l e : V) (H : Hp) (Q : VK) : Prop := ∃ rs ea m p, LnAt K H l rs ∧ Valid rs ∧ e = .ref ea ∧ H ea = some (.dK (entM m p)) ∧ Fine rs [m, p] ∧ ∀ H', Same H H' → Q (.bl true) H'
theorem ok_tidy (M : Md w K mg) (C__law_is_ring : Cal P w K mg base 1 "_law_is_ring" ["rows", "at"] (s2 (f_ring K))) : Cal P w K mg base 2 "_law_tidy" ["rows", "entries"] (s2 (f_tidy K)) := by
  obtain ⟨fd, F⟩ := M.fd__law_tidy
  refine ⟨⟨_, fd, fn_of_d F sc__law_tidy s2_len (fun cdv A outer s H vs Q E hr h => ?_), M.gl__law_tidy, F.kp, F.bindsN fun _ _ _ _ _ _ us hl => match us, hl with | [_, _], _ => rfl⟩⟩
  have hu := hu_of hr
  have nd := sc__law_tidy.nd
  obtain ⟨_, _, rfl, rs, ea, m, p, ⟨la, xs, rfl, hl, hr2⟩, hv, rfl, he, hF, q⟩ := h
  have hlen := hr2.len
  have hn9 := hv.2.1
  refine ⟨_, (pss_cons (ps_set (i := 2) nd rfl (Or.inl rfl) (pe_op op_cat (pe_lc (own := [("row", 3)]) (g := gName 3) (tt := _) rfl nd (pi_list (pv 0)) (blkOk_by (own := [("row", 3)]) (N := N__law_tidy) (sc := S__law_tidy) (by decide +kernel)) (fun _ _ _ _ _ => (pg_name (i := 3) nd rfl (Or.inl rfl))) (fun _ _ _ _ _ => (pts_one (pt_cmpR (op_inK (K := K) rfl) (pe_ix (ix_tupK (K := K) rfl) (pv 3) pe_int (fun _ _ => rfl)) (pe_tup (pa_cons pe_str (pa_cons pe_str (pa_cons pe_str (pa_cons pe_str pa_nil))))) (by first | rfl | exact nomark _)))) (fun _ _ _ _ _ => (pe_ix (ix_tupK (K := K) rfl) (pv 3) pe_int (fun _ _ => rfl)))) (pe_lst (pa_cons (pe_dget hu (pv 1) pe_str (fun _ _ => rfl)) (pa_cons (pe_dget hu (pv 1) pe_str (fun _ _ => rfl)) pa_nil))))) (pss_cons (ps_set (i := 4) nd rfl (Or.inl rfl) pe_dnewK) (pss_cons (ps_for PassesOwn.never rfl (pi_range1 rfl M.fr_range (pa_cons (pe_callB (call_lenK (K := K) rfl) rfl M.fr_len PySem.boot_len (pa_cons (pv 0) pa_nil)) pa_nil)) (pg_name (i := 5) nd rfl (Or.inl rfl)) (pss_cons (ps_set (i := 3) nd rfl (Or.inl rfl) (pe_ix (ix_listK (K := K) rfl) (pv 0) (pv 5) (fun _ _ => rfl))) (pss_cons (ps_set (i := 6) nd rfl (Or.inl rfl) (pe_cmpR op_eq (pe_op op_add (pv 5) pe_int) (pe_callB (call_lenK (K := K) rfl) rfl M.fr_len PySem.boot_len (pa_cons (pv 0) pa_nil)) (nomark _))) (pss_cons (ps_set (i := 7) nd rfl (Or.inl rfl) (pe_ifExp (pt_val (pv 6)) (pe_tup (pa_cons pe_str pa_nil)) (pe_ix (ix_listK (K := K) rfl) (pv 0) (pe_op op_add (pv 5) pe_int) (fun _ _ => rfl)))) (pss_cons (ps_if (pt_cmpR (op_inK (K := K) rfl) (pe_ix (ix_tupK (K := K) rfl) (pv 3) pe_int (fun _ _ => rfl)) (pe_tup (pa_cons pe_str (pa_cons pe_str (pa_cons pe_str (pa_cons pe_str pa_nil))))) (by first | rfl | exact nomark _)) (pss_cons (ps_if (pt_cmp (pc_dnotin hu (pe_ix (ix_tupK (K := K) rfl) (pv 3) pe_int (fun _ _ => rfl)) (pv 4))) (pss_one (ps_dput hu (pv 4) (pe_ix (ix_tupK (K := K) rfl) (pv 3) pe_int (fun _ _ => rfl)) (pe_or (pe_cmpR op_ne (pe_ix (ix_tupK (K := K) rfl) (pe_ix (ix_listK (K := K) rfl) (pv 0) (pe_ix (ix_tupK (K := K) rfl) (pv 3) pe_int (fun _ _ => rfl)) (fun _ _ => rfl)) pe_int (fun _ _ => rfl)) pe_str (nomark _)) (pe_one (pe_cl C__law_is_ring (hr.mono (by first | decide | omega)) rfl (pa_cons (pv 0) (pa_cons (pe_ix (ix_tupK (K := K) rfl) (pv 3) pe_int (fun _ _ => rfl)) pa_nil))))) rfl)) pss_nil) (pss_one (ps_if (PW.pt (pw_or (pt_not (pt_val (pe_dget hu (pv 4) (pe_ix (ix_tupK (K := K) rfl) (pv 3) pe_int (fun _ _ => rfl)) (fun _ _ => rfl)))) (pw_or1 (pt_cmpR (op_eqDK (K := K) rfl hr.units) (pv 3) (pe_tup (pa_cons pe_str (pa_cons (pe_op op_add (pv 5) pe_int) pa_nil))) (nomark _))))) (pss_one (ps_ret pe_bl)) pss_nil))) pss_nil) (pss_cons (ps_if (PW.pt (pw_and (pt_cmpR op_eq (pe_ix (ix_tupK (K := K) rfl) (pv 3) pe_int (fun _ _ => rfl)) pe_str (nomark _)) (pw_and (pt_not (pt_val (pv 6))) (pw_and1 (PW.pt (pw_or (pt_cmpR op_eq (pe_ix (ix_tupK (K := K) rfl) (pv 7) pe_int (fun _ _ => rfl)) pe_str (nomark _)) (pw_or1 (pt_cmpR op_eq (pe_ix (ix_tupK (K := K) rfl) (pe_ix (ix_listK (K := K) rfl) (pv 0) (pe_ix (ix_tupK (K := K) rfl) (pv 3) pe_int (fun _ _ => rfl)) (fun _ _ => rfl)) pe_int (fun _ _ => rfl)) pe_str (nomark _))))))))) (pss_one (ps_ret pe_bl)) pss_nil) (pss_one (ps_if (PW.pt (pw_and (pt_cmpR op_eq (pe_ix (ix_tupK (K := K) rfl) (pv 3) pe_int (fun _ _ => rfl)) pe_str (nomark _)) (pw_and (pt_cmpR op_eq (pe_ix (ix_tupK (K := K) rfl) (pv 7) pe_int (fun _ _ => rfl)) pe_str (nomark _)) (pw_and (pt_cmpR (op_notInK (K := K) rfl) (pe_op op_add (pv 5) pe_int) (pv 2) (by first | rfl | exact nomark _)) (pw_and1 (pt_cmpR op_lt (pe_op op_add (pv 5) pe_int) (pe_callB (call_lenK (K := K) rfl) rfl M.fr_len PySem.boot_len (pa_cons (pv 0) pa_nil)) (nomark _))))))) (pss_one (ps_ret pe_bl)) pss_nil)))))))) (pss_one (ps_ret pe_bl))))), ?_⟩
  walk_at "rx"
  with_reducible refine s_cut (fun σ' H' => Same H H' ∧ ∃ pl, H' pl = some (.lst (nV (plT rs ++ [m, p]))) ∧ σ' = [some (.ref la), some (.ref ea), some (.ref pl), none, none, none, none, none]) ?_ ?_
  · intro nx' hnx
    walk_at "rd"
    refine ⟨_, rfl, la, rfl, ⟨_, SqL.of hl⟩, fun D hD => lc_list (xs := xs) (fun i H7 => Same H H7 ∧ H7 D = some (.lst (nV (plT (rs.take i))))) ⟨Same.new hD, upd_same⟩ (fun i H7 _ z => SqL.of (z.1 _ _ hl)) ?_ ?_⟩
    · rintro i x H7 hx ⟨g7, hacc⟩
      obtain ⟨r, hri, a, rfl, hsa⟩ := Paired_at hr2 hx
      have hi := (List.getElem?_eq_some_iff.mp hri).1
      have hrm := List.mem_of_getElem? hri
      walk_at "rd"
      refine ⟨rfl, ?_⟩
      walk_at "rd"
      refine a_ixT (Same.seqT g7 hsa) atI0 ?_
      walk_at "rd"
      refine ⟨by decide +kernel, fun T hT => ?_⟩
      have g8 := Same.new (o := .tup [.str "jump", .str "retry", .str "any", .str "keep"]) hT
      refine b_inT (SqT.of upd_same) rfl (by decide +kernel) (b := plB r.w) rfl ?_
      have hacc8 := g8 _ _ hacc
      have g78 := g7.trans g8
      generalize upd H7 T (.tup [.str "jump", .str "retry", .str "any", .str "keep"]) = H8 at g78 hacc8 ⊢
      walk_at "rd"
      have hpt : ∀ o, (if plB r.w = true then some (tgt r) else none) = o → plT (rs.take (i + 1)) = plT (rs.take i) ++ o.toList := fun o ho => by
        unfold plT
        rw [take_succ_at hri, List.filterMap_append]
        congr 1
        rw [← ho]
        cases hb : plB r.w <;> simp [List.filterMap, hb]
      refine a_iteB (fun e1 => ?_) (fun e1 => ?_)
      · obtain ⟨hx1, hlt⟩ := pl_x hv hrm e1
        walk_at "rd"
        refine a_ixT (Same.seqT g78 hsa) (atI1 hx1) ?_
        refine ⟨_, hacc8, ?_, Same.mut g78 hD, ?_⟩
        · unfold nV plT
          rw [List.length_map]
          exact Nat.lt_of_le_of_lt (Nat.le_trans (List.length_filterMap_le _ _) (by rw [List.length_take]; exact Nat.le_trans (Nat.min_le_right _ _) hn9)) (by decide)
        · rw [upd_same, hpt (some (tgt r)) (by rw [if_pos e1])]
          unfold nV
          rw [List.map_append]
          rfl
      · walk_at "rd"
        refine ⟨g78, ?_⟩
        rw [hacc8, hpt none (by rw [if_neg (by rw [e1]; exact Bool.false_ne_true)]), Option.toList_none, List.append_nil]
    rintro H7 ⟨g7, hacc⟩
    rw [hlen, List.take_length] at hacc
    walk_at "rd"
    refine b_dgetS (g7 _ _ he) ent_main ?_
    walk_at "rd"
    refine b_dgetS (g7 _ _ he) ent_p ?_
    walk_at "rd"
    refine ⟨sz2, fun E1 hE1 => ?_⟩
    have nDE := ne_of_none hacc hE1
    have g8 := Same.new (o := .lst [.int (m : Nat), .int (p : Nat)]) hE1
    refine ⟨D, E1, _, _, rfl, rfl, g8 _ _ hacc, upd_same, ?_, fun pl hpl => ?_⟩
    · have : (plT rs).length ≤ rs.length := List.length_filterMap_le _ _
      unfold nV
      rw [List.length_map]
      exact sz (show (plT rs).length + 2 ≤ 100000 by omega)
    walk_at "rd"
    refine hnx _ _ ⟨(g7.trans g8).trans (Same.new hpl), pl, ?_, rfl⟩
    rw [upd_same]
    unfold nV
    rw [List.map_append]
    rfl
  rintro σ1 H1 ⟨g1, pl, hpl, rfl⟩
  walk_at "rd"
  refine fun rg hrg => ?_
  have hrg1 : (upd H1 rg (.dK [])) rg = some (.dK (seenK [])) := upd_same
  have g2 := Same.more (o := .dK []) g1 hrg
  have hrgH := Same.free g1 hrg
  have hpl2 := (Same.new (o := .dK []) hrg) _ _ hpl
  generalize upd H1 rg (.dK []) = H2 at g2 hrg1 hpl2 ⊢
  have npr : pl ≠ rg := fun z => by rw [z, hrg1] at hpl2; cases hpl2
  walk_at "rd"
  refine ⟨_, rfl, _, _, rfl, .inl (SqL.of (g2 _ _ hl)), _, rfl, by omega, by omega, ?_⟩
  rw [Int.toNat_natCast, hlen]
  let Inv : L2.St → Hp → Prop := fun σ H3 => Same H H3 ∧ H3 pl = some (.lst (nV (plT rs ++ [m, p]))) ∧ ∃ ps v3 v5 v6 v7, H3 rg = some (.dK (seenK ps)) ∧ ps.Nodup ∧ (∀ x ∈ ps, x < rs.length) ∧ σ = [some (.ref la), some (.ref ea), some (.ref pl), v3, some (.ref rg), v5, v6, v7]
  refine for_range (lo := 0) (n := rs.length) (fun i σ H3 => Inv σ H3) ⟨g2, hpl2, [], _, _, _, _, hrg1, List.nodup_nil, (fun x hx => by cases hx), rfl⟩ ?_ ?_
  · rintro i σ H3 hi ⟨g3, hpl3, ps, v3, v5, v6, v7, hrg3, hnd, hps, rfl⟩
    have hc : ((0 : Int) + (i : Nat)) = ((i : Nat) : Int) := by omega
    have hc1 : ((i : Int) + 1) = ((i + 1 : Nat) : Int) := by omega
    rw [hc]
    obtain ⟨r, hr3, hrm, hw, ht⟩ := wA_of hi
    obtain ⟨a, hxa, hsa⟩ := hr2.at hr3
    have hgd := hv.good _ hrm
    obtain ⟨id1, id2, id3⟩ := hF.idle i hi
    walk_at "rd"
    refine a_ixL (SqL.of (g3 _ _ hl)) (atI_nat hxa) ?_
    walk_at "rd"
    refine b_lenL (SqL.of (g3 _ _ hl)) ?_
    walk_at "rx"
    with_reducible refine s_cut (fun σ' H' => Same H3 H' ∧ ∃ b : Bool, ∃ bw : Str, ∃ ba bt, (b = true ↔ i + 1 = rs.length) ∧ (b = false → bw = wA rs (i + 1)) ∧ SqT K H' ba (.str bw :: bt) ∧ σ' = [some (.ref la), some (.ref ea), some (.ref pl), some (.ref a), some (.ref rg), some (.int (i : Nat)), some (.bl b), some (.ref ba)]) ?_ ?_
    · intro nx' hnx
      walk_at "rd"
      refine a_ite (fun e1 => ?_) (fun e1 => ?_)
      · walk_at "rd"
        refine ⟨sz1, fun T hT => hnx _ _ ⟨Same.new hT, _, "end", T, [], ?_, fun z => ?_, SqT.of upd_same, rfl⟩⟩
        · rw [decide_eq_true e1]
          exact ⟨fun _ => by omega, fun _ => rfl⟩
        · rw [decide_eq_true e1] at z; cases z
      · have hlt : i + 1 < rs.length := by omega
        obtain ⟨r4, hr4, hrm4, hw4, _⟩ := wA_of hlt
        obtain ⟨a4, hxa4, hsa4⟩ := hr2.at hr4
        walk_at "rd"
        refine a_ixL (SqL.of (g3 _ _ hl)) (by rw [hc1]; exact atI_nat hxa4) ?_
        refine hnx _ _ ⟨Same.refl _, _, r4.w, a4, (insV r4).drop 1, ?_, fun _ => hw4.symm, ?_, rfl⟩
        · rw [decide_eq_false e1]
          exact ⟨fun z => (by cases z), fun z => absurd z (by omega)⟩
        · have : insV r4 = .str r4.w :: (insV r4).drop 1 := by
            obtain ⟨w4, x4⟩ := r4
            cases x4 <;> rfl
          rw [← this]
          exact Same.seqT g3 hsa4
    rintro σ4 H4 ⟨g34, b, bw, ba, bt, hb1, hb2, hba, rfl⟩
    have g4 := g3.trans g34
    have hpl4 := g34 _ _ hpl3
    have hrg4 := g34 _ _ hrg3
    with_reducible refine s_cut (fun σ' H' => Same H H' ∧ H' pl = some (.lst (nV (plT rs ++ [m, p]))) ∧ SqT K H' ba (.str bw :: bt) ∧ ∃ ps, H' rg = some (.dK (seenK ps)) ∧ ps.Nodup ∧ (∀ x ∈ ps, x < rs.length) ∧ σ' = [some (.ref la), some (.ref ea), some (.ref pl), some (.ref a), some (.ref rg), some (.int (i : Nat)), some (.bl b), some (.ref ba)]) ?_ ?_
    · intro nx' hnx
      walk_at "rd"
      refine a_ixT (Same.seqT g4 hsa) atI0 ?_
      walk_at "rd"
      refine ⟨by decide +kernel, fun T hT => ?_⟩
      have g5 := Same.new (o := .tup [.str "jump", .str "retry", .str "any", .str "keep"]) hT
      refine b_inT (SqT.of upd_same) rfl (by decide +kernel) (b := plB r.w) rfl ?_
      have g45 := g4.trans g5
      have hpl5 := g5 _ _ hpl4
      have hrg5 := g5 _ _ hrg4
      have hba5 := Same.seqT g5 hba
      generalize upd H4 T (.tup [.str "jump", .str "retry", .str "any", .str "keep"]) = H5 at g45 hpl5 hrg5 hba5 ⊢
      walk_at "rd"
      refine a_iteB (fun e1 => ?_) (fun e1 => ?_)
      · obtain ⟨hx, hlt⟩ := pl_x hv hrm e1
        obtain ⟨r6, hr6, hrm6, hw6, _⟩ := wA_of hlt
        obtain ⟨a6, hxa6, hsa6⟩ := hr2.at hr6
        obtain ⟨sf1, sf2⟩ := str_fix hv hF.str hr3 e1
        walk_at "rx"
        with_reducible refine s_cut (fun σ' H' => Same H H' ∧ H' pl = some (.lst (nV (plT rs ++ [m, p]))) ∧ SqT K H' ba (.str bw :: bt) ∧ ∃ ps, tgt r ∈ ps ∧ H' rg = some (.dK (seenK ps)) ∧ ps.Nodup ∧ (∀ x ∈ ps, x < rs.length) ∧ σ' = [some (.ref la), some (.ref ea), some (.ref pl), some (.ref a), some (.ref rg), some (.int (i : Nat)), some (.bl b), some (.ref ba)]) ?_ ?_
        · intro nx2 hnx2
          walk_at "rd"
          refine a_ixT (Same.seqT g45 hsa) (atI1 hx) ?_
          walk_at "rd"
          by_cases hin : tgt r ∈ ps
          · refine b_niI1 hrg5 (seenK_in hin) ?_
            walk_at "rd"
            exact hnx2 _ _ ⟨g45, hpl5, hba5, ps, hin, hrg5, hnd, hps, rfl⟩
          · refine b_niI0 hrg5 (seenK_out hin) ?_
            have hpsl := nodup_lt rs.length ps hnd hps
            have put : nx2 [some (.ref la), some (.ref ea), some (.ref pl), some (.ref a), some (.ref rg), some (.int (i : Nat)), some (.bl b), some (.ref ba)] (upd H5 rg (.dK (putK (seenK ps) (Sum.inl ((tgt r : Nat) : Int) : Key) (.bl true)))) := by
              rw [seenK_put hin]
              refine hnx2 _ _ ⟨Same.mut g45 hrgH, by rw [upd_ne npr]; exact hpl5, (SameT.dK hrg5).sq hba5, ps ++ [tgt r], List.mem_append_right _ (List.mem_singleton.mpr rfl), upd_same, ?_, fun x hx => ?_, rfl⟩
              · rw [List.nodup_append]
                exact ⟨hnd, List.nodup_cons.mpr ⟨by simp, List.nodup_nil⟩, fun x hx y hy => by rw [List.mem_singleton.mp hy]; exact fun z => hin (z ▸ hx)⟩
              · rcases List.mem_append.mp hx with hx | hx
                · exact hps x hx
                · rw [List.mem_singleton.mp hx]; exact hlt
            have hsl : (seenK ps).length ≤ 10000 := by unfold seenK; rw [List.length_map]; omega
            walk_at "rd"
            refine a_ixT (Same.seqT g45 hsa) (atI1 hx) ?_
            refine a_ixL (SqL.of (g45 _ _ hl)) (atI_nat hxa6) ?_
            walk_at "rd"
            refine a_ixT (Same.seqT g45 hsa6) atI0 ?_
            walk_at "rd"
            by_cases hj : r6.w = "jump"
            · rw [show decide (r6.w = "jump") = true from decide_eq_true hj]
              walk_at "rd"
              refine a_ixT (Same.seqT g45 hsa) (atI1 hx) ?_
              walk_at "rd"; walk_at "rc"
              refine ⟨rs, tgt r, ⟨la, xs, rfl, g45 _ _ hl, Rows.mono g45 hr2⟩, hv, rfl, hlt, sf1.resolve_left fun z => z (hw6.trans hj), ?_⟩
              walk_at "rd"
              refine a_ixT (Same.seqT g45 hsa) (atI1 hx) ?_
              exact b_dputI hrg5 hsl put
            · rw [show decide (r6.w = "jump") = false from decide_eq_false hj]
              walk_at "rd"
              refine a_ixT (Same.seqT g45 hsa) (atI1 hx) ?_
              exact b_dputI hrg5 hsl put
        rintro σ6 H6 ⟨g6, hpl6, hba6, ps6, hin6, hrg6, hnd6, hps6, rfl⟩
        walk_at "rd"
        refine a_ixT (Same.seqT g6 hsa) (atI1 hx) ?_
        refine b_dgetI hrg6 (seenK_in hin6) ?_
        walk_at "rd"
        refine ⟨sz2, fun T2 hT2 => ?_⟩
        have g7 := Same.new (o := .tup [.str "jump", .int ((i : Int) + 1)]) hT2
        refine b_eqRow (s := ⟨"jump", some (.int ((i : Int) + 1))⟩) (Same.seqT (g6.trans g7) hsa) (SqT.of upd_same) hgd (good_jump _) ?_
        have hne : ¬ r = ⟨"jump", some (.int ((i : Int) + 1))⟩ := fun z => id1 ⟨by rw [hw, z], by rw [ht, z]; show ((i : Int) + 1).toNat = i + 1; omega⟩
        rw [decide_eq_false hne]
        walk_at "rd"
        exact hnx _ _ ⟨g6.trans g7, g7 _ _ hpl6, Same.seqT g7 hba6, ps6, g7 _ _ hrg6, hnd6, hps6, rfl⟩
      · walk_at "rd"
        exact hnx _ _ ⟨g45, hpl5, hba5, ps, hrg5, hnd, hps, rfl⟩
    rintro σ7 H7 ⟨g7, hpl7, hba7, ps7, hrg7, hnd7, hps7, rfl⟩
    with_reducible refine s_cut (fun σ' H' => H' = H7 ∧ σ' = [some (.ref la), some (.ref ea), some (.ref pl), some (.ref a), some (.ref rg), some (.int (i : Nat)), some (.bl b), some (.ref ba)]) ?_ ?_
    · intro nx' hnx
      walk_at "rd"
      refine a_ixT (Same.seqT g7 hsa) atI0 ?_
      walk_at "rd"
      refine a_ite (fun e1 => ?_) (fun e1 => ?_)
      · have hp1 : plB r.w = true := by rw [e1]; exact retry_pl
        obtain ⟨hx, hlt⟩ := pl_x hv hrm hp1
        obtain ⟨r6, hr6, hrm6, hw6, _⟩ := wA_of hlt
        obtain ⟨a6, hxa6, hsa6⟩ := hr2.at hr6
        obtain ⟨sf1, sf2⟩ := str_fix hv hF.str hr3 hp1
        walk_at "rd"
        refine a_iteBN (fun e2 => ?_) (fun e2 => ?_)
        · have hin : i + 1 < rs.length := by
            have : ¬ i + 1 = rs.length := fun z => by rw [hb1.mpr z] at e2; cases e2
            omega
          have hbw := hb2 e2
          walk_at "rd"
          refine a_ixT hba7 (atI_nat (j := 0) (v := .str bw) rfl) ?_
          walk_at "rd"
          refine a_ite (fun e3 => absurd ⟨e1, hin, by rw [← hbw]; exact e3⟩ sf2) (fun e3 => ?_)
          walk_at "rd"
          refine a_ixT (Same.seqT g7 hsa) (atI1 hx) ?_
          refine a_ixL (SqL.of (g7 _ _ hl)) (atI_nat hxa6) ?_
          walk_at "rd"
          refine a_ixT (Same.seqT g7 hsa6) atI0 ?_
          walk_at "rd"
          refine a_ite (fun e4 => absurd ⟨hw.trans e1, hin, by rw [ht, hw6]; exact e4⟩ id2) (fun e4 => ?_)
          walk_at "rd"
          exact hnx _ _ ⟨rfl, rfl⟩
        · walk_at "rd"
          exact hnx _ _ ⟨rfl, rfl⟩
      · walk_at "rd"
        exact hnx _ _ ⟨rfl, rfl⟩
    rintro σ8 H8 ⟨rfl, rfl⟩
    have done : Inv [some (.ref la), some (.ref ea), some (.ref pl), some (.ref a), some (.ref rg), some (.int (i : Nat)), some (.bl b), some (.ref ba)] H8 := ⟨g7, hpl7, ps7, _, _, _, _, hrg7, hnd7, hps7, rfl⟩
    walk_at "rd"
    refine a_ixT (Same.seqT g7 hsa) atI0 ?_
    walk_at "rd"
    refine a_ite (fun e1 => ?_) (fun e1 => ?_)
    · walk_at "rd"
      refine a_ixT hba7 (atI_nat (j := 0) (v := .str bw) rfl) ?_
      walk_at "rd"
      refine a_ite (fun e2 => ?_) (fun e2 => ?_)
      · walk_at "rd"
        rw [hc1]
        refine b_niL (SqL.of hpl7) rfl (nV_flat _) rfl ?_
        walk_at "rd"
        cases hnin : inV (.int (i + 1 : Nat)) (nV (plT rs ++ [m, p])) with
        | true =>
          walk_at "rd"
          exact done
        | false =>
          walk_at "rd"
          refine b_lenL (SqL.of (g7 _ _ hl)) ?_
          walk_at "rd"
          refine a_ite (fun e3 => ?_) (fun e3 => ?_)
          · exfalso
            have hin : i + 2 < rs.length := by omega
            have hbf : b = false := by
              cases hb : b with
              | false => rfl
              | true => have := hb1.mp hb; omega
            have hN := id3 (hw.trans e1) hin (by rw [← hb2 hbf]; exact e2)
            have hmem : i + 1 ∈ plT rs ++ [m, p] := by
              rcases hN with h | ⟨k, hk, h1, h2⟩
              · exact List.mem_append_right _ h
              · refine List.mem_append_left _ ?_
                obtain ⟨rk, hrk, hrkm, hwk, htk⟩ := wA_of hk
                unfold plT
                rw [List.mem_filterMap]
                exact ⟨rk, hrkm, by rw [if_pos (by rw [← hwk]; exact h1), ← htk, h2]⟩
            rw [int_in hmem] at hnin
            cases hnin
          · walk_at "rd"
            exact done
      · walk_at "rd"
        exact done
    · walk_at "rd"
      exact done
  rintro σ H3 ⟨g3, hpl3, ps, v3, v5, v6, v7, hrg3, hnd, hps, rfl⟩
  walk_at "rd"
  exact q _ g3
end
end T51

set_option Elab.async false
set_option linter.all false
set_option maxRecDepth 100000
set_option maxHeartbeats 4000000
namespace T51
open PySem PySem.Spec PyProof.Rows L2
local macro_rules | `(tactic| walk_at "rd1") => `(tactic| with_reducible first
  | refine a_seq ?_ | refine a_var rfl ?_ | refine a_c ?_ | refine a_op ?_ | refine a_cons ?_ | refine a_nil ?_ | refine a_cb ?_ | refine a_asg ?_ | refine a_gname ?_ | refine a_ret ?_
  | refine a_if ?_ | refine a_test ?_ | refine a_tB ?_ | refine a_blP ?_ | refine a_and ?_ | refine a_or ?_ | refine a_not ?_ | refine a_andV ?_ | refine a_orV ?_ | refine a_notV ?_ | refine a_ifE ?_
  | refine a_rI0 ?_ | refine a_eqS ?_ | refine a_eqI ?_ | refine a_neS ?_ | refine a_neI ?_ | refine a_call ?_ | refine a_tup ?_ | refine a_lst ?_ | refine a_chain ?_ | refine a_iteT ?_ | refine a_iteF ?_ | refine a_iteNT ?_ | refine a_iteNF ?_
  | refine a_drop ?_ | refine a_next ?_ | refine a_cont ?_ | refine a_break ?_ | refine a_retN ?_ | refine a_ipI ?_ | refine a_aug rfl ?_ | refine a_bm ?_ | refine a_bm0 ?_ | refine b_ord ?_ | refine b_int ?_ | refine b_isN ?_ | refine b_notN ?_ | refine a_un ?_ | refine b_rU ?_ | refine a_fld ?_ | refine a_sfld ?_ | refine a_meth ?_ | refine a_make ?_
  | refine a_dget ?_ | refine a_din ?_ | refine a_dnin ?_ | refine a_dput ?_ | refine a_yes ?_ | refine a_gsub ?_)
local macro_rules | `(tactic| walk_at "is") => `(tactic| with_reducible first
  | refine a_isi_int_int ?_ | refine a_isi_int_bool ?_ | refine a_isi_int_str ?_ | refine a_isi_int_list ?_ | refine a_isi_int_tuple ?_ | refine a_isi_int_dict ?_
  | refine a_isi_bl_int ?_ | refine a_isi_bl_bool ?_ | refine a_isi_bl_str ?_ | refine a_isi_bl_list ?_ | refine a_isi_bl_tuple ?_ | refine a_isi_bl_dict ?_
  | refine a_isi_str_int ?_ | refine a_isi_str_bool ?_ | refine a_isi_str_str ?_ | refine a_isi_str_list ?_ | refine a_isi_str_tuple ?_ | refine a_isi_str_dict ?_
  | refine a_isi_non_int ?_ | refine a_isi_non_bool ?_ | refine a_isi_non_str ?_ | refine a_isi_non_list ?_ | refine a_isi_non_tuple ?_ | refine a_isi_non_dict ?_)
local macro_rules | `(tactic| walk_at "rd") => `(tactic| repeat (walk_at "rd1"))
local macro_rules | `(tactic| walk_at "hp") => `(tactic| first
  | with_reducible assumption
  | with_reducible exact upd_same
  | (with_reducible refine SqL.of ?_; walk_at "hp")
  | (with_reducible refine SqT.of ?_; walk_at "hp")
  | (with_reducible refine Eq.trans (upd_ne ?_) ?_; rotate_left; focus (walk_at "hp"); walk_at "ne")
  | (with_reducible refine (by with_reducible assumption : Same _ _) _ _ ?_; walk_at "hp"))
local macro_rules | `(tactic| walk_at "ne") => `(tactic| first
  | with_reducible assumption
  | with_reducible exact Ne.symm (by with_reducible assumption)
  | (with_reducible refine ne_of_none ?_ (by with_reducible assumption); walk_at "hp")
  | (with_reducible refine Ne.symm (ne_of_none ?_ (by with_reducible assumption)); walk_at "hp"))
local macro_rules | `(tactic| walk_at "rc") => `(tactic| with_reducible first
  | refine a_s1 ?_ | refine a_s2 ?_ | refine a_s3 ?_ | refine a_s4 ?_ | refine a_s0 ?_ | refine a_m1 ?_ | refine a_m2 ?_ | refine a_m3 ?_ | refine a_m4 ?_)
local macro_rules | `(tactic| walk_at "rx1") => `(tactic| with_reducible first
  | refine a_var rfl ?_ | refine a_c ?_ | refine a_op ?_ | refine a_cons ?_ | refine a_nil ?_ | refine a_cb ?_ | refine a_asg ?_ | refine a_gname ?_ | refine a_ret ?_
  | refine a_if ?_ | refine a_test ?_ | refine a_tB ?_ | refine a_blP ?_ | refine a_and ?_ | refine a_or ?_ | refine a_not ?_ | refine a_andV ?_ | refine a_orV ?_ | refine a_notV ?_ | refine a_ifE ?_
  | refine a_rI0 ?_ | refine a_eqS ?_ | refine a_eqI ?_ | refine a_neS ?_ | refine a_neI ?_ | refine a_call ?_ | refine a_tup ?_ | refine a_lst ?_ | refine a_chain ?_ | refine a_iteT ?_ | refine a_iteF ?_ | refine a_iteNT ?_ | refine a_iteNF ?_
  | refine a_drop ?_ | refine a_next ?_ | refine a_cont ?_ | refine a_break ?_ | refine a_retN ?_ | refine a_ipI ?_ | refine a_aug rfl ?_ | refine a_bm ?_ | refine a_bm0 ?_ | refine b_ord ?_ | refine b_int ?_ | refine b_isN ?_ | refine b_notN ?_ | refine a_un ?_ | refine b_rU ?_ | refine a_fld ?_ | refine a_sfld ?_ | refine a_meth ?_ | refine a_make ?_
  | refine a_dget ?_ | refine a_din ?_ | refine a_dnin ?_ | refine a_dput ?_ | refine a_yes ?_ | refine a_gsub ?_)
local macro_rules | `(tactic| walk_at "rx") => `(tactic| repeat (walk_at "rx1"))
section
variable {P : Program} {w : World} {K : PySem.W.Frag} {mg : Str → Option Value} {base : Heap}
/-! ### the law -/
theorem mro_of {K : PySem.W.Frag} {C : Addr} (h : clsB K C = true) : PySem.W.mroIn K C (.type "object") = some true := of_decide_eq_true (He.ba (He.ba (He.ba h).2).2).2
theorem Md.ne_Program (M : Md w K mg) : PySem.W.findIn K (.ref (He.ga K "Program")) "__ne__" = some (some (.builtin "object.__ne__")) := M.nex 1 rfl
def rDictD : List V → Hp → VK → Prop := fun xs H Q => ∃ (a : Addr) (kvs : List (Key × V)), xs = [.ref a] ∧ Rd H a (.dK kvs) ∧ ∀ p, H p = none → Q (.ref p) (upd H p (.dK kvs))
theorem call_dictN {X : Cx} : CallR X (.type "dict") rDictD := call_dictD
abbrev N_Code___len__ : List Str := ["self"]
abbrev S_Code___len__ : Scope := defScope (inClass (top 42) 4)
theorem sc_Code___len__ : FnScope N_Code___len__ ["self"] (defScope (inClass (top 42) 4)) := ⟨rfl, rfl, rfl, by decide +kernel, rfl, by decide +kernel, by decide +kernel⟩
def f_code_len (K : PySem.W.Frag) (x : V) (H : Hp) (Q : VK) : Prop := ∃ p pg kvs rs, x = .ref p ∧ CdAt K H p pg kvs rs ∧ Q (.int (rs.length : Nat)) H
theorem ok_code_len (M : Md w K mg) : CalM P w K mg base 1 (He.ga K "Code") "__len__" ["self"] (s1 (f_code_len K)) := by
  obtain ⟨fd, F⟩ := M.fd_Code___len__
  refine ⟨⟨_, fd, fn_of_d F sc_Code___len__ s1_len (fun cdv A outer s H vs Q E hr h => ?_), M.me_Code___len__, F.bindsN fun _ _ _ _ _ _ us hl => match us, hl with | [_], _ => rfl⟩, M.cl_Code⟩
  have hu := hu_of hr
  have nd := sc_Code___len__.nd
  obtain ⟨_, rfl, p, pg, kvs, rs, rfl, ⟨dx, sa, la, xs, hp, hs, hl, hrw⟩, q⟩ := h
  have hlk : List.lookup ("lines" : Str) [(("owner" : Str), V.ref pg), ("starts", .ref sa), ("lines", .ref la)] = some (.ref la) := (lk_ne (by decide +kernel)).trans ((lk_ne (by decide +kernel)).trans lk_hit)
  refine ⟨_, (pss_one (ps_ret (pe_callB (call_lenK (K := K) rfl) rfl M.fr_len PySem.boot_len (pa_cons (pe_fldK (K := K) rfl (pv 0) rfl) pa_nil)))), ?_⟩
  walk_at "rd"
  refine b_fld hp M.cl_Code M.na_Code_lines hlk ?_
  walk_at "rd"
  refine b_lenT hl ?_
  rw [hrw.len]
  exact q
def psL : List Proc := [⟨"main", [], []⟩, ⟨"p", ["a"], []⟩]
theorem psL_good : GoodPs noBody psL := by
  refine ⟨by decide, by decide +kernel, by decide +kernel, fun p hp => ?_, by decide +kernel, fun p hp => ?_, ⟨fun _ => 0, rfl, fun i p hp => ?_⟩, fun p hp => ?_, fun p hp => ?_, by decide +kernel⟩
  · have : p = ⟨"main", [], []⟩ ∨ p = ⟨"p", ["a"], []⟩ := by simpa [psL] using hp
    rcases this with rfl | rfl
    · exact ⟨by decide, (fun z hz => by cases hz), List.nodup_nil⟩
    · exact ⟨by decide, by decide +kernel, by decide +kernel⟩
  · have : p = ⟨"main", [], []⟩ := (Option.some.inj hp).symm
    rw [this]
    exact ⟨rfl, rfl⟩
  · have : p ∈ psL := List.mem_of_getElem? hp
    have : p = ⟨"main", [], []⟩ ∨ p = ⟨"p", ["a"], []⟩ := by simpa [psL] using this
    rcases this with rfl | rfl <;> exact ⟨rfl, rfl⟩
  · have : p = ⟨"main", [], []⟩ ∨ p = ⟨"p", ["a"], []⟩ := by simpa [psL] using hp
    rcases this with rfl | rfl
    · refine .inr ⟨_, .inr rfl, by decide, fun e he => ?_⟩
      rcases List.mem_cons.mp he with rfl | he
      · exact .inl rfl
      rcases List.mem_cons.mp he with rfl | he
      · exact .inr ⟨_, .inr rfl, by decide, fun e he => by cases he⟩
      rw [List.mem_singleton.mp he]
      exact .inr ⟨_, .inr rfl, by decide, fun e he => by cases he⟩
    · refine .inr ⟨_, .inr rfl, by decide, fun e he => ?_⟩
      rcases List.mem_cons.mp he with rfl | he
      · exact .inl rfl
      rcases List.mem_cons.mp he with rfl | he
      · refine .inr ⟨_, .inr rfl, by decide, fun e he => ?_⟩
        rw [List.mem_singleton.mp he]
        exact .inl rfl
      rw [List.mem_singleton.mp he]
      exact .inr ⟨_, .inr rfl, by decide, fun e he => by cases he⟩
  · have : p = ⟨"main", [], []⟩ ∨ p = ⟨"p", ["a"], []⟩ := by simpa [psL] using hp
    rcases this with rfl | rfl
    · unfold procD; simp [frz, frzAll]
    · unfold procD; simp [frz, frzAll]
theorem ent_of {kvs : List (Key × V)} {n : Nat} (hk : keysOf kvs ["main", "p"]) (h : EnOk kvs n) : ∃ m p, kvs = entM m p ∧ m < n ∧ p < n := by
  have hl := keys_len hk
  match kvs, hl, hk, h with
  | [kv1, kv2], _, hk, h =>
    obtain ⟨z1, m, e1, h1⟩ := h.2.2 kv1 (List.mem_cons_self ..)
    obtain ⟨z2, p, e2, h2⟩ := h.2.2 kv2 (List.mem_cons_of_mem _ (List.mem_cons_self ..))
    have hk' : [kv1.1, kv2.1] = [(Sum.inr "main" : Key), Sum.inr "p"] := hk
    rw [e1, e2] at hk'
    injection hk' with k1 k2
    injection k2 with k2 _
    have k1' : (Sum.inr z1 : Key) = (Sum.inr "main" : Key) := k1
    have k2' : (Sum.inr z2 : Key) = (Sum.inr "p" : Key) := k2
    exact ⟨m, p, by rw [e1, e2, k1', k2']; rfl, h1, h2⟩
theorem ent_ok {m p n : Nat} (h1 : m < n) (h2 : p < n) : EnOk (entM m p) n := by
  refine ⟨by show 2 ≤ 6; decide, by show [(Sum.inr "main" : Key), Sum.inr "p"].Nodup; decide +kernel, fun kv hkv => ?_⟩
  rcases List.mem_cons.mp hkv with rfl | hkv
  · exact ⟨"main", m, rfl, h1⟩
  · rw [List.mem_singleton.mp hkv]
    exact ⟨"p", p, rfl, h2⟩
theorem upd_upd {H : Hp} {p : Addr} {o o' : HO} : upd (upd H p o) p o' = upd H p o' := by
  funext b
  by_cases e : b = p
  · rw [e, upd_same, upd_same]
  · rw [upd_ne e, upd_ne e, upd_ne e]
abbrev N_law : List Str := ["script", "source", "far", "lined", "rows", "entries", "program", "whole", "short", "lines", "starts", "told"]
abbrev S_law : Scope := defScope (top 83)
theorem sc_law : FnScope N_law ["script"] (defScope (top 83)) := ⟨rfl, rfl, rfl, by decide +kernel, rfl, by decide +kernel, by decide +kernel⟩
def f_law (K : PySem.W.Frag) (x : V) (H : Hp) (Q : VK) : Prop := ∃ (a : Addr) (ns : List Int), x = .ref a ∧ SqL K H a (ns.map V.int) ∧ ns.length ≤ 63 ∧ ∀ H', Q (.bl true) H'
theorem ok_law (M : Md w K mg) {fd : FuncData} (F : FunD K "law" "law" (defArgs (top 83)) (defBody (top 83)) (defScope (top 83)) [] [] (He.fAd K d_law.at_) fd)
    (C__law_source : Cal P w K mg base 1 "_law_source" ["script"] (s1 (f_source K))) (C__law_draw : Cal P w K mg base 2 "_law_draw" ["source", "many"] (s2 f_draw)) (C__law_code : Cal P w K mg base 6 "_law_code" ["source"] (s1 (f_lcode K)))
    (C__law_line : Cal P w K mg base 4 "_law_line" ["source", "rows"] (s2 (f_line K))) (C_Program : CalI P w K mg base 16 "Program" (He.ga K "Program") ["self", "procedures"] (s2 (f_prog_init noBody K)))
    (C_Code : CalI P w K mg base 6 "Code" (He.ga K "Code") ["self", "program", "entries", "rows"] (s4 (f_code_init K))) (C_shortened : CalK P w K mg base 9 "shortened" "code" (s1 (f_shortened K)))
    (C_Code_rows : CalM P w K mg base 1 (He.ga K "Code") "rows" ["self"] (s1 (f_code_rows K))) (C_Code_entry : CalM P w K mg base 1 (He.ga K "Code") "entry" ["self", "name"] (s2 (f_code_entry K))) (C_Code_program : CalM P w K mg base 1 (He.ga K "Code") "program" ["self"] (s1 (f_code_program K)))
    (C_Code___len__ : CalM P w K mg base 1 (He.ga K "Code") "__len__" ["self"] (s1 (f_code_len K))) (C_Program___eq__ : CalM P w K mg base 1 (He.ga K "Program") "__eq__" ["self", "other"] (s2 (f_prog_eq K)))
    (C__law_all_reached : Cal P w K mg base 2 "_law_all_reached" ["rows", "entries"] (s2 (f_allr K))) (C__law_tidy : Cal P w K mg base 2 "_law_tidy" ["rows", "entries"] (s2 (f_tidy K))) : FnOk P w K mg base CX0 60 (He.fAd K d_law.at_) fd ["script"] (s1 (f_law K)) := by
  refine fn_of_d F sc_law s1_len (fun cdv A outer s H vs Q E hr h => ?_)
  have hu := hu_of hr
  have nd := sc_law.nd
  obtain ⟨fS, fdS, FS, mS, kS, bS⟩ := C_shortened.ex
  obtain ⟨_, rfl, a, ns, rfl, ha, hn, q⟩ := h
  refine ⟨_, (pss_cons (ps_set (i := 1) nd rfl (Or.inl rfl) (pe_cl C__law_source (hr.mono (by first | decide | omega)) rfl (pa_cons (pv 0) pa_nil))) (pss_cons (ps_set (i := 2) nd rfl (Or.inl rfl) (pe_cmpR op_eq (pe_cl C__law_draw (hr.mono (by first | decide | omega)) rfl (pa_cons (pv 1) (pa_cons pe_int pa_nil))) pe_int (nomark _))) (pss_cons (ps_set (i := 3) nd rfl (Or.inl rfl) (pe_cmpR op_eq (pe_cl C__law_draw (hr.mono (by first | decide | omega)) rfl (pa_cons (pv 1) (pa_cons pe_int pa_nil))) pe_int (nomark _))) (pss_cons (ps_set (i := 4) nd rfl (Or.inl rfl) (pe_cl C__law_code (hr.mono (by first | decide | omega)) rfl (pa_cons (pv 1) pa_nil))) (pss_cons (ps_if (pt_val (pv 3)) (pss_one (ps_set (i := 4) nd rfl (Or.inl rfl) (pe_cl C__law_line (hr.mono (by first | decide | omega)) rfl (pa_cons (pv 1) (pa_cons (pv 4) pa_nil))))) pss_nil) (pss_cons (ps_set (i := 5) nd rfl (Or.inl rfl) (pe_disp (pps_cons pe_str (pe_ifExp (pt_val (pv 2)) (pe_cl C__law_draw (hr.mono (by first | decide | omega)) rfl (pa_cons (pv 1) (pa_cons (pe_callB (call_lenK (K := K) rfl) rfl M.fr_len PySem.boot_len (pa_cons (pv 4) pa_nil)) pa_nil))) pe_int) (pps_cons pe_str (pe_cl C__law_draw (hr.mono (by first | decide | omega)) rfl (pa_cons (pv 1) (pa_cons (pe_callB (call_lenK (K := K) rfl) rfl M.fr_len PySem.boot_len (pa_cons (pv 4) pa_nil)) pa_nil))) pps_nil)) (by rfl) (by rfl) (fun z => by cases z) (by decide))) (pss_cons (ps_set (i := 6) nd rfl (Or.inl rfl) (pe_mkc C_Program (hr.mono (by first | decide | omega)) rfl (pa_cons (pe_lst (pa_cons (pe_tup (pa_cons pe_str (pa_cons (pe_tup pa_nil) (pa_cons (pe_tup pa_nil) pa_nil)))) (pa_cons (pe_tup (pa_cons pe_str (pa_cons (pe_tup (pa_cons pe_str pa_nil)) (pa_cons (pe_tup pa_nil) pa_nil)))) pa_nil))) pa_nil))) (pss_cons (ps_set (i := 7) nd rfl (Or.inl rfl) (pe_mkc C_Code (hr.mono (by first | decide | omega)) rfl (pa_cons (pv 6) (pa_cons (pe_callTy call_dictN rfl M.fr_dict (by decide +kernel) (pa_cons (pv 5) pa_nil)) (pa_cons (pe_callTy (call_listK (K := K) rfl) rfl M.fr_list (by decide +kernel) (pa_cons (pv 4) pa_nil)) pa_nil))))) (pss_cons (ps_set (i := 8) nd rfl (Or.inl rfl) (pe_clK0 FS (hr.mono (by first | decide | omega)) rfl mS kS bS (pv 7))) (pss_cons (ps_set (i := 9) nd rfl (Or.inl rfl) (pe_me0 C_Code_rows (pv 8) (hr.mono (by first | decide | omega)) rfl)) (pss_cons (ps_set (i := 10) nd rfl (Or.inl rfl) (pe_disp (pps_cons pe_str (pe_me C_Code_entry (pv 8) (hr.mono (by first | decide | omega)) (pa_cons pe_str pa_nil) rfl rfl) (pps_cons pe_str (pe_me C_Code_entry (pv 8) (hr.mono (by first | decide | omega)) (pa_cons pe_str pa_nil) rfl rfl) pps_nil)) (by rfl) (by rfl) (fun z => by cases z) (by decide))) (pss_cons (ps_if (PW.pt (pw_or (pt_cmpR (op_neDK (K := K) rfl hr.units) (pe_me0 C_Code_rows (pv 7) (hr.mono (by first | decide | omega)) rfl) (pv 4) (nomark _)) (pw_or (pt_cmpR op_ne (pe_me C_Code_entry (pv 7) (hr.mono (by first | decide | omega)) (pa_cons pe_str pa_nil) rfl rfl) (pe_dget hu (pv 5) pe_str (fun _ _ => rfl)) (nomark _)) (pw_or1 (pt_cmpR op_ne (pe_me C_Code_entry (pv 7) (hr.mono (by first | decide | omega)) (pa_cons pe_str pa_nil) rfl rfl) (pe_dget hu (pv 5) pe_str (fun _ _ => rfl)) (nomark _)))))) (pss_one (ps_ret pe_bl)) pss_nil) (pss_cons (ps_if (PW.pt (pw_or (pt_cmpR (op_neI C_Program___eq__ (hr.mono (by first | decide | omega)) (mro_of M.cx_Program) M.ne_Program) (pe_me0 C_Code_program (pv 7) (hr.mono (by first | decide | omega)) rfl) (pv 6) (nomark _)) (pw_or (pt_cmpR (op_neI C_Program___eq__ (hr.mono (by first | decide | omega)) (mro_of M.cx_Program) M.ne_Program) (pe_me0 C_Code_program (pv 8) (hr.mono (by first | decide | omega)) rfl) (pv 6) (nomark _)) (pw_or1 (pt_not (pt_val (pe_callB (call_isiKK (K := K) rfl) rfl M.fr_isinstance (by decide +kernel) (pa_cons (pv 9) (pa_cons (pe_ty (n := "list") rfl M.fr_list (by decide +kernel)) pa_nil))))))))) (pss_one (ps_ret pe_bl)) pss_nil) (pss_cons (ps_if (PW.pt (pw_or (pt_not (pt_chain op_le op_le pe_int (pe_callB (call_lenK (K := K) rfl) rfl M.fr_len PySem.boot_len (pa_cons (pv 9) pa_nil)) (pe_callB (call_lenK (K := K) rfl) rfl M.fr_len PySem.boot_len (pa_cons (pv 4) pa_nil)))) (pw_or1 (pt_cmpR op_ne (pe_callB (call_lenI C_Code___len__ (hr.mono (by first | decide | omega))) rfl M.fr_len PySem.boot_len (pa_cons (pv 8) pa_nil)) (pe_callB (call_lenK (K := K) rfl) rfl M.fr_len PySem.boot_len (pa_cons (pv 9) pa_nil)) (nomark _))))) (pss_one (ps_ret pe_bl)) pss_nil) (pss_cons (ps_if (PW.pt (pw_or (pt_not (pt_val (pe_cl C__law_all_reached (hr.mono (by first | decide | omega)) rfl (pa_cons (pv 9) (pa_cons (pv 10) pa_nil))))) (pw_or1 (pt_not (pt_val (pe_cl C__law_tidy (hr.mono (by first | decide | omega)) rfl (pa_cons (pv 9) (pa_cons (pv 10) pa_nil)))))))) (pss_one (ps_ret pe_bl)) pss_nil) (pss_cons (ps_set (i := 11) nd rfl (Or.inl rfl) (pe_callTy (call_listK (K := K) rfl) rfl M.fr_list (by decide +kernel) (pa_cons (pv 9) pa_nil))) (pss_cons (ps_expr (pe_bm0 PySem.F.plainAttrs_list PySem.F.slot_list_clear PySem.F.type_list_clear mt_clear (pv 9))) (pss_one (ps_ret (pe_cmpR (op_eqDK (K := K) rfl hr.units) (pe_me0 C_Code_rows (pv 8) (hr.mono (by first | decide | omega)) rfl) (pv 11) (nomark _))))))))))))))))))))), ?_⟩
  walk_at "rd"; walk_at "rc"
  refine ⟨a, ns, rfl, ha, hn, fun sa ca H1 hs1 => ?_⟩
  walk_at "rd"; walk_at "rc"
  refine ⟨sa, ca, 3, rfl, hs1, rfl, by decide, by decide, fun i2 H2 _ _ D2 => ?_⟩
  walk_at "rd"
  generalize decide (i2 = 0) = far
  walk_at "rd"; walk_at "rc"
  refine ⟨sa, ca, 12, rfl, D2.src, rfl, by decide, by decide, fun i3 H3 _ _ D3 => ?_⟩
  walk_at "rd"
  generalize decide (i3 = 11) = lined
  walk_at "rd"; walk_at "rc"
  refine ⟨sa, ca, rfl, D3.src, fun p4 rs4 H4 D4 _ R4 h41 h463 hok4 => ?_⟩
  walk_at "rx"
  with_reducible refine s_cut (fun σ' H' => ∃ p rs, SrcAt H' sa ca ∧ RowsAt K sa ca H' p rs ∧ Valid rs ∧ σ' = [some (.ref a), some (.ref sa), some (.bl far), some (.bl lined), some (.ref p), none, none, none, none, none, none, none]) ?_ ?_
  · intro nx' hnx
    walk_at "rd"
    refine a_iteB (fun e1 => ?_) (fun e1 => ?_)
    · walk_at "rd"; walk_at "rc"
      refine ⟨sa, ca, p4, rs4, rfl, D4.src, rfl, R4, h41, h463, hok4, fun p rs H5 D5 R5 h1 h2 hok => ?_⟩
      walk_at "rd"
      exact hnx _ _ ⟨p, rs, D5.src, R5, ⟨h1, h2, hok⟩, rfl⟩
    · walk_at "rd"
      exact hnx _ _ ⟨p4, rs4, D4.src, R4, ⟨h41, by omega, hok4⟩, rfl⟩
  rintro σ5 H5 ⟨p, rs, hs5, R5, hv, rfl⟩
  walk_at "rd"
  refine fun ed hed => ?_
  have g6 := Same.new (o := .dK []) hed
  have hs6 := hs5.mono g6
  have R6 := R5.mono hs5 (Drw.of hs5 g6)
  have hed6 : (upd H5 ed (.dK [])) ed = some (.dK []) := upd_same
  have hedn := hs5.ne hed
  generalize upd H5 ed (.dK []) = H6 at g6 hs6 R6 hed6 ⊢
  simp only [tPairs]
  with_reducible refine a_c ?_
  with_reducible refine e_cut (fun v H' => ∃ m : Nat, v = .int (m : Nat) ∧ m < rs.length ∧ Drw sa ca H6 H') ?_ ?_
  · intro R' hR'
    walk_at "rd"
    refine a_iteB (fun e1 => ?_) (fun e1 => ?_)
    · obtain ⟨xs, hx, hrw⟩ := R6.at_
      have hl := hrw.len
      walk_at "rd"
      refine b_lenL (SqL.of hx) ?_
      walk_at "rd"; walk_at "rc"
      refine ⟨sa, ca, _, rfl, hs6, rfl, by have := hv.1; omega, by have := hv.2.1; omega, fun i H7 h0 h1 D7 => ?_⟩
      exact hR' _ _ ⟨i.toNat, by rw [show ((i.toNat : Nat) : Int) = i by omega], by omega, D7⟩
    · walk_at "rd"
      exact hR' _ _ ⟨0, rfl, hv.1, Drw.refl hs6⟩
  rintro v7 H7 ⟨m, rfl, hm, D7⟩
  have R7 := R6.mono hs6 D7
  obtain ⟨xs, hx, hrw⟩ := R7.at_
  have hl := hrw.len
  walk_at "rd"
  refine b_lenL (SqL.of hx) ?_
  walk_at "rd"; walk_at "rc"
  refine ⟨sa, ca, _, rfl, D7.src, rfl, by have := hv.1; omega, by have := hv.2.1; omega, fun i H8 h80 h81 D8 => ?_⟩
  obtain ⟨pp, rfl⟩ : ∃ pp : Nat, i = (pp : Nat) := ⟨i.toNat, by omega⟩
  have hpp : pp < rs.length := by omega
  refine ⟨D8.keep _ _ (D7.keep _ _ hed6 hedn.1 hedn.2) hedn.1 hedn.2, entM m pp, rfl, by show 2 ≤ 15; decide, ?_⟩
  have hmg : mergeK [] (entM m pp) = entM m pp := rfl
  rw [hmg]
  have D8e := (D7.trans D8)
  have hed8 := D8e.keep _ _ hed6 hedn.1 hedn.2
  have R8 := R7.mono D7.src D8
  have npe : p ≠ ed := fun e => by
    obtain ⟨ys, hy, _⟩ := R8.at_
    rw [e, hed8] at hy; cases hy
  obtain ⟨ys8, hy8, hrw8⟩ := R8.at_
  have hy9 : (upd H8 ed (.dK (entM m pp))) p = some (.lst ys8) := by rw [upd_ne npe]; exact hy8
  have hrw9 : Rows K (upd H8 ed (.dK (entM m pp))) ys8 rs := Rows.tup (SameT.dK hed8) hrw8
  have hed9 : (upd H8 ed (.dK (entM m pp))) ed = some (.dK (entM m pp)) := upd_same
  generalize upd H8 ed (.dK (entM m pp)) = H9 at hy9 hrw9 hed9 ⊢
  walk_at "rd"
  refine ⟨by decide, fun e1 he1 => ?_⟩
  have q1 := Same.new (o := .tup []) he1
  have k1 : SqT K (upd H9 e1 (.tup [])) e1 [] := SqT.of upd_same
  generalize upd H9 e1 (.tup []) = HA at q1 k1 ⊢
  walk_at "rd"
  refine ⟨by decide, fun e2 he2 => ?_⟩
  have q2 := Same.new (o := .tup []) he2
  have k2 : SqT K (upd HA e2 (.tup [])) e2 [] := SqT.of upd_same
  generalize upd HA e2 (.tup []) = HB at q2 k2 ⊢
  walk_at "rd"
  refine ⟨sz3, fun t1 ht1 => ?_⟩
  have q3 := Same.new (o := .tup [.str "main", .ref e1, .ref e2]) ht1
  have k3 : SqT K (upd HB t1 (.tup [.str "main", .ref e1, .ref e2])) t1 [.str "main", .ref e1, .ref e2] := SqT.of upd_same
  generalize upd HB t1 (.tup [.str "main", .ref e1, .ref e2]) = HC at q3 k3 ⊢
  walk_at "rd"
  refine ⟨sz1, fun z1 hz1 => ?_⟩
  have q4 := Same.new (o := .tup [.str "a"]) hz1
  have k4 : SqT K (upd HC z1 (.tup [.str "a"])) z1 [.str "a"] := SqT.of upd_same
  generalize upd HC z1 (.tup [.str "a"]) = HD at q4 k4 ⊢
  walk_at "rd"
  refine ⟨by decide, fun e3 he3 => ?_⟩
  have q5 := Same.new (o := .tup []) he3
  have k5 : SqT K (upd HD e3 (.tup [])) e3 [] := SqT.of upd_same
  generalize upd HD e3 (.tup []) = HE at q5 k5 ⊢
  walk_at "rd"
  refine ⟨sz3, fun t2 ht2 => ?_⟩
  have q6 := Same.new (o := .tup [.str "p", .ref z1, .ref e3]) ht2
  have k6 : SqT K (upd HE t2 (.tup [.str "p", .ref z1, .ref e3])) t2 [.str "p", .ref z1, .ref e3] := SqT.of upd_same
  generalize upd HE t2 (.tup [.str "p", .ref z1, .ref e3]) = HF at q6 k6 ⊢
  walk_at "rd"
  refine ⟨sz2, fun pl hpl => ?_⟩
  have q7 := Same.new (o := .lst [.ref t1, .ref t2]) hpl
  have k7 : (upd HF pl (.lst [.ref t1, .ref t2])) pl = some (.lst [.ref t1, .ref t2]) := upd_same
  generalize upd HF pl (.lst [.ref t1, .ref t2]) = HG at q7 k7 ⊢
  have q37 := (((q4.trans q5).trans q6).trans q7)
  have hdp : DpAll K HG [.ref t1, .ref t2] (psL.map procD) :=
    .cons (.tup (Same.seqT q37 k3) (.cons (.str _) (.cons (.tup (Same.seqT ((q2.trans q3).trans q37) k1) .nil) (.cons (.tup (Same.seqT (q3.trans q37) k2) .nil) .nil))))
      (.cons (.tup (Same.seqT q7 k6) (.cons (.str _) (.cons (.tup (Same.seqT ((q5.trans q6).trans q7) k4) (.cons (.str _) .nil)) (.cons (.tup (Same.seqT (q6.trans q7) k5) .nil) .nil)))) .nil)
  have q17 := ((q1.trans q2).trans q3).trans q37
  walk_at "rd"
  refine fun pg dg hpg hdg hne => ?_
  walk_at "rc"
  have hpg2 : (upd HG dg (.own pg)) pg = none := by rw [upd_ne (Ne.symm hne)]; exact hpg
  have gm : Same HG (upd (upd HG dg (.own pg)) pg (.ins (He.ga K "Program") dg [])) := Same.more (Same.new hdg) hpg2
  refine ⟨pg, dg, pl, _, psL, rfl, upd_same, rfl, gm _ _ k7, DpAll_mono gm _ _ hdp, psL_good, fun HP bP hPg => ⟨rfl, ?_⟩⟩
  have qP : Same H9 HP := q17.trans (But.same gm hpg bP)
  walk_at "rd"
  refine ⟨ed, entM m pp, rfl, .inl (qP _ _ hed9), fun ec hec => ?_⟩
  have qE := Same.new (o := .dK (entM m pp)) hec
  have kE : (upd HP ec (.dK (entM m pp))) ec = some (.dK (entM m pp)) := upd_same
  generalize upd HP ec (.dK (entM m pp)) = HQ at qE kE ⊢
  walk_at "rd"
  refine b_listL (SqL.of (qE _ _ (qP _ _ hy9))) fun lc hlc => ?_
  have qL := Same.new (o := .lst ys8) hlc
  have kL : (upd HQ lc (.lst ys8)) lc = some (.lst ys8) := upd_same
  have kLr := Rows.mono ((qP.trans qE).trans qL) hrw9
  generalize upd HQ lc (.lst ys8) = HR at qL kL kLr ⊢
  walk_at "rd"
  refine fun cw dw hcw hdw hnw => ?_
  walk_at "rc"
  have hcw2 : (upd HR dw (.own cw)) cw = none := by rw [upd_ne (Ne.symm hnw)]; exact hcw
  have gw : Same HR (upd (upd HR dw (.own cw)) cw (.ins (He.ga K "Code") dw [])) := Same.more (Same.new hdw) hcw2
  have hPgR := PgAt.mono (qE.trans qL) hPg
  have hnames : psL.map (·.nm) = (["main", "p"] : List Str) := rfl
  have hkeys : keysOf (entM m pp) ["main", "p"] := rfl
  have hent := ent_ok (m := m) (p := pp) hm hpp
  refine ⟨cw, dw, pg, psL, ec, entM m pp, lc, ys8, rs, rfl, upd_same, rfl, PgAt.mono gw hPgR, by decide, by decide +kernel, rfl, gw _ _ (qL _ _ kE), good_of hkeys hent, rfl, gw _ _ kL, Rows.mono gw kLr, hv.1, hv.2.1, hv.2.2, fun HW bW hcd => ⟨rfl, ?_⟩⟩
  rw [hnames, entK_self hkeys hent] at hcd
  have qW : Same HR HW := But.same gw hcw bW
  have hPgW := PgAt.mono qW hPgR
  walk_at "rd"; walk_at "rc"
  refine ⟨cw, pg, psL, entM m pp, rs, rfl, hcd, hPgW, by decide, by decide +kernel, hkeys, hv, hent, (fun z => by cases z), fun sc kvs2 rs2 HS qS hsc hv2 hle2 hen2 hks2 hF2 => ?_⟩
  obtain ⟨m2, p2, rfl, hm2, hp2⟩ := ent_of hks2 hen2
  obtain ⟨sdx, ssa, sla, sxs, hsp, hss, hsl, hsr⟩ := id hsc
  obtain ⟨wdx, wsa, wla, wxs, hwp, hws, hwl, hwr⟩ := id hcd
  obtain ⟨pdx, ppa, pxs, hpo, hpp1⟩ := id hPgW
  have lk3 : ∀ (sa la : Addr) (m : Str), ((m == "owner") = false) → ((m == "starts") = false) → ((m == "lines") = false) → List.lookup m [(("owner" : Str), V.ref pg), ("starts", .ref sa), ("lines", .ref la)] = none := fun _ _ m h1 h2 h3 => (lk_ne h1).trans ((lk_ne h2).trans ((lk_ne h3).trans lk_none))
  walk_at "rd"
  refine b_meth hsp (lk3 _ _ _ (by decide +kernel) (by decide +kernel) (by decide +kernel)) ?_
  walk_at "rd"; walk_at "rc"
  refine ⟨sc, pg, _, rs2, rfl, hsc, fun l9 xs9 HT qT hl9n hl9 hr9 => ?_⟩
  walk_at "rd"
  refine fun sd hsd => ?_
  have gS := Same.new (o := .dK []) hsd
  have hsd1 : (upd HT sd (.dK [])) sd = some (.dK []) := upd_same
  have qT2 := qT.trans gS
  have hl92 := gS _ _ hl9
  have hr92 := Rows.mono gS hr9
  have nls : l9 ≠ sd := ne_of_none hl9 hsd
  have hsdS : HS sd = none := Same.free qT hsd
  generalize upd HT sd (.dK []) = HU at hsd1 qT2 hl92 hr92 ⊢
  simp only [tPairs]
  walk_at "rd"
  refine b_meth (qT2 _ _ hsp) (lk3 _ _ _ (by decide +kernel) (by decide +kernel) (by decide +kernel)) ?_
  walk_at "rd"; walk_at "rc"
  refine ⟨sc, pg, _, rs2, "main", _, rfl, hsc.mono qT2, rfl, ent_main, ?_⟩
  walk_at "rd"
  refine b_meth (qT2 _ _ hsp) (lk3 _ _ _ (by decide +kernel) (by decide +kernel) (by decide +kernel)) ?_
  walk_at "rd"; walk_at "rc"
  refine ⟨sc, pg, _, rs2, "p", _, rfl, hsc.mono qT2, rfl, ent_p, ?_⟩
  refine ⟨hsd1, entM m2 p2, rfl, by show 2 ≤ 15; decide, ?_⟩
  have hmg2 : mergeK [] (entM m2 p2) = entM m2 p2 := rfl
  rw [hmg2]
  have qV : Same HS (upd HU sd (.dK (entM m2 p2))) := Same.mut qT2 hsdS
  have hl9V : (upd HU sd (.dK (entM m2 p2))) l9 = some (.lst xs9) := by rw [upd_ne nls]; exact hl92
  have hr9V : Rows K (upd HU sd (.dK (entM m2 p2))) xs9 rs2 := Rows.tup (SameT.dK hsd1) hr92
  have hsdV : (upd HU sd (.dK (entM m2 p2))) sd = some (.dK (entM m2 p2)) := upd_same
  generalize upd HU sd (.dK (entM m2 p2)) = HV at qV hl9V hr9V hsdV ⊢
  have hscV := hsc.mono qV
  have qWV := qS.trans qV
  have hcdV := hcd.mono qWV
  have hPgV := PgAt.mono qWV hPgW
  have q9V := (((qP.trans qE).trans qL).trans qW).trans qWV
  have hyV := q9V _ _ hy9
  have hedV := q9V _ _ hed9
  have hrV := Rows.mono q9V hrw9
  walk_at "rd"
  refine b_meth (qWV _ _ hwp) (lk3 _ _ _ (by decide +kernel) (by decide +kernel) (by decide +kernel)) ?_
  walk_at "rd"; walk_at "rc"
  refine ⟨cw, pg, _, rs, rfl, hcdV, fun lw xw HX qX _ hlw hrwX => ?_⟩
  walk_at "rd"
  refine ⟨.list (rs.map insD), .list (rs.map insD), .lst (SqL.of hlw) (Dp_rows hv.good hrwX), .lst (SqL.of (qX _ _ hyV)) (Dp_rows hv.good (Rows.mono qX hrV)), list_shaped hv.good, list_shaped hv.good, ?_⟩
  rw [show PyData.eqv (.list (rs.map insD)) (.list (rs.map insD)) = true by simp only [PyData.eqv, eqv_rows hv.good hv.good]; simp]
  have qWX := qWV.trans qX
  have hcdX := hcdV.mono qX
  have hscX := hscV.mono qX
  have hPgX := PgAt.mono qX hPgV
  have hl9X := qX _ _ hl9V
  have hr9X := Rows.mono qX hr9V
  have hsdX := qX _ _ hsdV
  have hedX := qX _ _ hedV
  have hyX := qX _ _ hyV
  have hspX := (qV.trans qX) _ _ hsp
  have hwpX := qWX _ _ hwp
  have hpoX := qWX _ _ hpo
  have hwlen := hrw9.len
  have h9len := hr9X.len
  walk_at "rd"
  refine b_meth hwpX (lk3 _ _ _ (by decide +kernel) (by decide +kernel) (by decide +kernel)) ?_
  walk_at "rd"; walk_at "rc"
  refine ⟨cw, pg, _, rs, "main", _, rfl, hcdX, rfl, ent_main, ?_⟩
  walk_at "rd"
  refine b_dgetS hedX ent_main ?_
  walk_at "rd"
  refine a_iteN (fun e => absurd rfl e) (fun _ => ?_)
  walk_at "rd"
  refine b_meth hwpX (lk3 _ _ _ (by decide +kernel) (by decide +kernel) (by decide +kernel)) ?_
  walk_at "rd"; walk_at "rc"
  refine ⟨cw, pg, _, rs, "p", _, rfl, hcdX, rfl, ent_p, ?_⟩
  walk_at "rd"
  refine b_dgetS hedX ent_p ?_
  walk_at "rd"
  refine a_iteN (fun e => absurd rfl e) (fun _ => ?_)
  walk_at "rd"
  refine b_meth hwpX (lk3 _ _ _ (by decide +kernel) (by decide +kernel) (by decide +kernel)) ?_
  walk_at "rd"; walk_at "rc"
  refine ⟨cw, pg, _, rs, rfl, hcdX, ?_⟩
  walk_at "rd"
  refine ⟨pg, pg, _, _, _, _, rfl, rfl, hpoX, hpoX, ⟨_, _, rfl, pg, pg, psL, rfl, rfl, hPgX, hPgX, true, rfl, ?_⟩⟩
  walk_at "rd"
  refine b_meth hspX (lk3 _ _ _ (by decide +kernel) (by decide +kernel) (by decide +kernel)) ?_
  walk_at "rd"; walk_at "rc"
  refine ⟨sc, pg, _, rs2, rfl, hscX, ?_⟩
  walk_at "rd"
  refine ⟨pg, pg, _, _, _, _, rfl, rfl, hpoX, hpoX, ⟨_, _, rfl, pg, pg, psL, rfl, rfl, hPgX, hPgX, true, rfl, ?_⟩⟩
  walk_at "rd"
  refine a_isi_lst_list hl9X ?_
  walk_at "rd"
  refine b_lenL (SqL.of hl9X) ?_
  walk_at "rd"
  refine a_ite (fun e => ?_) (fun e => absurd (show (1 : Int) ≤ (xs9.length : Nat) by have := hv2.1; omega) e)
  walk_at "rd"
  refine b_lenL (SqL.of hyX) ?_
  walk_at "rd"
  have h2len := hv2.2.1
  have hyl : ys8.length = rs.length := hwlen
  refine a_iteN (fun e => absurd (show ((xs9.length : Nat) : Int) ≤ (ys8.length : Nat) by omega) e) (fun _ => ?_)
  walk_at "rd"
  refine ⟨sc, _, _, rfl, hspX, ⟨_, rfl, sc, pg, _, rs2, rfl, hscX, rs2.length, rfl, by omega, ?_⟩⟩
  walk_at "rd"
  refine b_lenL (SqL.of hl9X) ?_
  walk_at "rd"
  refine a_iteN (fun e => absurd (show ((rs2.length : Nat) : Int) = (xs9.length : Nat) by omega) e) (fun _ => ?_)
  have hF3 : Fine rs2 [m2, p2] := hF2
  walk_at "rd"; walk_at "rc"
  refine ⟨rs2, sd, m2, p2, ⟨l9, xs9, rfl, hl9X, hr9X⟩, hv2, rfl, hsdX, hm2, hp2, hF3.all, fun HY qY => ?_⟩
  walk_at "rd"; walk_at "rc"
  refine ⟨rs2, sd, m2, p2, ⟨l9, xs9, rfl, qY _ _ hl9X, Rows.mono qY hr9X⟩, hv2, rfl, qY _ _ hsdX, hF3, fun HZ qZ => ?_⟩
  have qXZ := qY.trans qZ
  walk_at "rd"
  refine b_listL (SqL.of (qXZ _ _ hl9X)) fun lt hlt => ?_
  have qT3 := Same.new (o := .lst xs9) hlt
  have hlt1 : (upd HZ lt (.lst xs9)) lt = some (.lst xs9) := upd_same
  have qS3 := ((qV.trans qX).trans qXZ).trans qT3
  have hl93 := qT3 _ _ (qXZ _ _ hl9X)
  have hr93 := Rows.mono (qXZ.trans qT3) hr9X
  have nlt : lt ≠ l9 := (ne_of_none (qXZ _ _ hl9X) hlt).symm
  generalize upd HZ lt (.lst xs9) = H10 at hlt1 qS3 hl93 hr93 ⊢
  walk_at "rd"
  refine ⟨.inl ⟨rfl, _, SqL.of hl93⟩, l9, xs9, rfl, rfl, hl93, ?_⟩
  have qS4 : Same HS (upd H10 l9 (.lst [])) := Same.mut qS3 hl9n
  have hlt2 : (upd H10 l9 (.lst [])) lt = some (.lst xs9) := by rw [upd_ne nlt]; exact hlt1
  have hrt2 : Rows K (upd H10 l9 (.lst [])) xs9 rs2 := Rows.tup (SameT.lst hl93) hr93
  generalize upd H10 l9 (.lst []) = H11 at qS4 hlt2 hrt2 ⊢
  walk_at "rd"
  refine b_meth (qS4 _ _ hsp) (lk3 _ _ _ (by decide +kernel) (by decide +kernel) (by decide +kernel)) ?_
  walk_at "rd"; walk_at "rc"
  refine ⟨sc, pg, _, rs2, rfl, hsc.mono qS4, fun lr xr HL qR _ hlr hrr => ?_⟩
  walk_at "rd"
  refine ⟨.list (rs2.map insD), .list (rs2.map insD), .lst (SqL.of hlr) (Dp_rows hv2.good hrr), .lst (SqL.of (qR _ _ hlt2)) (Dp_rows hv2.good (Rows.mono qR hrt2)), list_shaped hv2.good, list_shaped hv2.good, ?_⟩
  rw [show PyData.eqv (.list (rs2.map insD)) (.list (rs2.map insD)) = true by simp only [PyData.eqv, eqv_rows hv2.good hv2.good]; simp]
  exact q _
end

end T51

set_option Elab.async false
set_option linter.all false
set_option maxRecDepth 100000
set_option maxHeartbeats 4000000
namespace T51
open PySem PySem.Spec PyProof.Rows L2
local macro_rules | `(tactic| walk_at "rd1") => `(tactic| with_reducible first
  | refine a_seq ?_ | refine a_var rfl ?_ | refine a_c ?_ | refine a_op ?_ | refine a_cons ?_ | refine a_nil ?_ | refine a_cb ?_ | refine a_asg ?_ | refine a_gname ?_ | refine a_ret ?_
  | refine a_if ?_ | refine a_test ?_ | refine a_tB ?_ | refine a_blP ?_ | refine a_and ?_ | refine a_or ?_ | refine a_not ?_ | refine a_andV ?_ | refine a_orV ?_ | refine a_notV ?_ | refine a_ifE ?_
  | refine a_rI0 ?_ | refine a_eqS ?_ | refine a_eqI ?_ | refine a_neS ?_ | refine a_neI ?_ | refine a_call ?_ | refine a_tup ?_ | refine a_lst ?_ | refine a_chain ?_ | refine a_iteT ?_ | refine a_iteF ?_ | refine a_iteNT ?_ | refine a_iteNF ?_
  | refine a_drop ?_ | refine a_next ?_ | refine a_cont ?_ | refine a_break ?_ | refine a_retN ?_ | refine a_ipI ?_ | refine a_aug rfl ?_ | refine a_bm ?_ | refine a_bm0 ?_ | refine b_ord ?_ | refine b_int ?_ | refine b_isN ?_ | refine b_notN ?_ | refine a_un ?_ | refine b_rU ?_ | refine a_fld ?_ | refine a_sfld ?_ | refine a_meth ?_ | refine a_make ?_
  | refine a_dget ?_ | refine a_din ?_ | refine a_dnin ?_ | refine a_dput ?_ | refine a_yes ?_ | refine a_gsub ?_)
local macro_rules | `(tactic| walk_at "is") => `(tactic| with_reducible first
  | refine a_isi_int_int ?_ | refine a_isi_int_bool ?_ | refine a_isi_int_str ?_ | refine a_isi_int_list ?_ | refine a_isi_int_tuple ?_ | refine a_isi_int_dict ?_
  | refine a_isi_bl_int ?_ | refine a_isi_bl_bool ?_ | refine a_isi_bl_str ?_ | refine a_isi_bl_list ?_ | refine a_isi_bl_tuple ?_ | refine a_isi_bl_dict ?_
  | refine a_isi_str_int ?_ | refine a_isi_str_bool ?_ | refine a_isi_str_str ?_ | refine a_isi_str_list ?_ | refine a_isi_str_tuple ?_ | refine a_isi_str_dict ?_
  | refine a_isi_non_int ?_ | refine a_isi_non_bool ?_ | refine a_isi_non_str ?_ | refine a_isi_non_list ?_ | refine a_isi_non_tuple ?_ | refine a_isi_non_dict ?_)
local macro_rules | `(tactic| walk_at "rd") => `(tactic| repeat (walk_at "rd1"))
local macro_rules | `(tactic| walk_at "hp") => `(tactic| first
  | with_reducible assumption
  | with_reducible exact upd_same
  | (with_reducible refine SqL.of ?_; walk_at "hp")
  | (with_reducible refine SqT.of ?_; walk_at "hp")
  | (with_reducible refine Eq.trans (upd_ne ?_) ?_; rotate_left; focus (walk_at "hp"); walk_at "ne")
  | (with_reducible refine (by with_reducible assumption : Same _ _) _ _ ?_; walk_at "hp"))
local macro_rules | `(tactic| walk_at "ne") => `(tactic| first
  | with_reducible assumption
  | with_reducible exact Ne.symm (by with_reducible assumption)
  | (with_reducible refine ne_of_none ?_ (by with_reducible assumption); walk_at "hp")
  | (with_reducible refine Ne.symm (ne_of_none ?_ (by with_reducible assumption)); walk_at "hp"))
local macro_rules | `(tactic| walk_at "rc") => `(tactic| with_reducible first
  | refine a_s1 ?_ | refine a_s2 ?_ | refine a_s3 ?_ | refine a_s4 ?_ | refine a_s0 ?_ | refine a_m1 ?_ | refine a_m2 ?_ | refine a_m3 ?_ | refine a_m4 ?_)
local macro_rules | `(tactic| walk_at "rx1") => `(tactic| with_reducible first
  | refine a_var rfl ?_ | refine a_c ?_ | refine a_op ?_ | refine a_cons ?_ | refine a_nil ?_ | refine a_cb ?_ | refine a_asg ?_ | refine a_gname ?_ | refine a_ret ?_
  | refine a_if ?_ | refine a_test ?_ | refine a_tB ?_ | refine a_blP ?_ | refine a_and ?_ | refine a_or ?_ | refine a_not ?_ | refine a_andV ?_ | refine a_orV ?_ | refine a_notV ?_ | refine a_ifE ?_
  | refine a_rI0 ?_ | refine a_eqS ?_ | refine a_eqI ?_ | refine a_neS ?_ | refine a_neI ?_ | refine a_call ?_ | refine a_tup ?_ | refine a_lst ?_ | refine a_chain ?_ | refine a_iteT ?_ | refine a_iteF ?_ | refine a_iteNT ?_ | refine a_iteNF ?_
  | refine a_drop ?_ | refine a_next ?_ | refine a_cont ?_ | refine a_break ?_ | refine a_retN ?_ | refine a_ipI ?_ | refine a_aug rfl ?_ | refine a_bm ?_ | refine a_bm0 ?_ | refine b_ord ?_ | refine b_int ?_ | refine b_isN ?_ | refine b_notN ?_ | refine a_un ?_ | refine b_rU ?_ | refine a_fld ?_ | refine a_sfld ?_ | refine a_meth ?_ | refine a_make ?_
  | refine a_dget ?_ | refine a_din ?_ | refine a_dnin ?_ | refine a_dput ?_ | refine a_yes ?_ | refine a_gsub ?_)
local macro_rules | `(tactic| walk_at "rx") => `(tactic| repeat (walk_at "rx1"))
section
variable {P : Program} {w : World} {K : PySem.W.Frag} {mg : Str → Option Value}
/-! ### all defs together -/
theorem lawB (M : Md w K mg) : ∀ fa : Addr, mg "law" = some (.ref fa) → ∃ fd : FuncData, (∀ (s : Shared) (u : Value), BindsTo s fd ⟨[u], []⟩ [("script", u)]) ∧
      ∀ base : Heap, K.In base → base.Ns mainGlobals mg → FnOk P w K mg base CX0 60 fa fd ["script"] (s1 (f_law K)) := by
  intro fa hfa
  have e := M.gl_law
  rw [hfa] at e
  have e2 : fa = He.ga K "law" := Value.ref.inj (Option.some.inj e)
  subst e2
  obtain ⟨fd, F⟩ := M.fd_law
  refine ⟨fd, fun s u => F.bindsA (ps := ["script"]) (fun _ _ _ _ _ _ us hl => match us, hl with | [_], _ => rfl) s [u] rfl, fun base _ _ => ?_⟩
  have c_row := ok_is_row (P := P) (base := base) M
  have c_int := ok_is_integer (P := P) (base := base) M
  have c_name := ok_is_name (P := P) (base := base) M
  have c_char := ok_is_character (P := P) (base := base) M
  have c_wr := ok_is_written M c_char
  have c_word := ok_is_word (P := P) (base := base) M
  have c_const := ok_is_constant M c_int c_wr
  have c_right := ok_is_right_for M c_const c_name c_int
  have c_ins := ok_is_instruction M c_row c_word c_right
  have c_ents := ok_are_entries M c_int
  have c_frozen := ok_frozen M c_row 14
  have c_params := ok_are_params M c_row c_name
  have c_head := ok_has_head M c_row c_name c_params
  have c_fault := ok_body_fault0 (P := P) (base := base) M
  have c_prog := ok_prog_init M c_row c_head c_fault c_frozen (by decide)
  have c_names := ok_names (P := P) (base := base) M
  have c_peq := ok_prog_eq (P := P) (base := base) M
  have c_code := ok_code_init M c_row c_ins c_ents c_names
  have c_cprog := ok_code_program (P := P) (base := base) M
  have c_centry := ok_code_entry (P := P) (base := base) M
  have c_crows := ok_code_rows (P := P) (base := base) M
  have c_clen := ok_code_len (P := P) (base := base) M
  have c_land := ok_landing (P := P) (base := base) M
  have c_str := ok_straight M c_land
  have c_strd := ok_straightened M c_str
  have c_rch := ok_reached (P := P) (base := base) M
  have c_nam := ok_named (P := P) (base := base) M
  have c_quiet := ok_quiet (P := P) (base := base) M
  have c_free := ok_free (P := P) (base := base) M
  have c_fence := ok_fence M c_quiet
  have c_idle := ok_idle M c_fence c_free
  have c_kept := ok_kept M c_rch c_nam c_idle
  have c_clo := ok_closed (P := P) (base := base) M
  have c_shr := ok_shorter M c_strd c_kept c_clo
  have c_shd := ok_shortened M c_shr c_names c_cprog c_centry c_crows c_code
  have c_src := ok_source (P := P) (base := base) M
  have c_mix := ok_mixed (P := P) (base := base) M
  have c_draw := ok_draw M c_mix
  have c_many := ok_many (P := P) (base := base) M
  have c_one := ok_one M c_draw
  have c_con := ok_const M c_draw
  have c_deed := ok_deed M c_draw c_one c_many c_con
  have c_chunk := ok_chunk M c_draw c_one c_con c_deed
  have c_lc := ok_lcode M c_draw c_chunk
  have c_line := ok_line M c_draw c_con
  have c_next := ok_next (P := P) (base := base) M
  have c_allr := ok_allr M c_next
  have c_ring := ok_ring (P := P) (base := base) M
  have c_tidy := ok_tidy M c_ring
  exact ok_law M F c_src c_draw c_lc c_line c_prog c_code c_shd c_crows c_centry c_cprog c_clen c_peq c_allr c_tidy
end
theorem walk {l : PySem.W.OpenLaw} {q : Program} {loose : List Str} {XP : (Str → Option Value) → Heap → Prop} {YP : World → Heap → Prop} {d : DefRec} {K : Params → PySem.W.Frag} (hn : l.most = some 63) (hdf : d.params.defaults = [])
    (hY : ∀ (w : World) (h : Heap), YP w h → (K w.params).In h)
    (F : ∀ (w : World), He.SaysT fa fn tabs w (K w.params) ∧ more (K w.params) = true) (hd : d.name = "law")
    (B : ∀ (w : World) (K : PySem.W.Frag) (mg : Str → Option Value), Md w K mg → ∀ fa : Addr, mg "law" = some (.ref fa) → ∃ fd : FuncData, (∀ (s : Shared) (u : Value), BindsTo s fd ⟨[u], []⟩ [("script", u)]) ∧
      ∀ base : Heap, K.In base → base.Ns mainGlobals mg → FnOk l.prog w K mg base CX0 60 fa fd ["script"] (s1 (f_law K))) :
    PySem.W.WalkO q loose XP YP l.row.toRowW d [] (fun f vs => PySem.call f vs) :=
  L2.walk_of (n := 63) (k := 60) (x := "script") (CX := fun _ => CX0) (sp := fun w => s1 (f_law (K w.params))) hn (by decide) hdf ⟨rfl, by decide, by decide⟩ hY
    (fun w mg fa h KX G hmg => B w (K w.params) mg ⟨⟨h, KX, G⟩, (F w).1, (F w).2⟩ fa (by rw [← hd]; exact hmg)) (fun _ _ a ns hl _ hS => ⟨_, rfl, a, ns, rfl, hS, hl, fun _ => rfl⟩) fun _ _ _ _ _ z => z

end T51

open PySem PySem.W PyProof.Rows
set_option maxRecDepth 100000 in
set_option maxHeartbeats 0 in
open_top head51 for PySem.Challenge.rw_triedagain_k51_shortened_shape
set_option maxRecDepth 100000
set_option maxHeartbeats 0
open PySem PySem.Spec PyProof.Rows L2 in
theorem PySem.Challenge.cw_triedagain_k51_shortened_shape_holds : PySem.Challenge.rw_triedagain_k51_shortened_shape.Holds := by
  refine head51 ?_
  k_fill
  refine T51.walk (l := PySem.Challenge.rw_triedagain_k51_shortened_shape) rfl rfl (fun w h Y => PySem.W.kIn_of Y) ?F ?d ?B
  case F =>
    intro w
    constructor
    · show He.obsT T51.fa T51.fn T51.tabs _ = He.valT T51.fn T51.tabs w
      kernel_rfl
    · kernel_rfl
  case d => rfl
  case B => exact fun w K mg M => T51.lawB M
