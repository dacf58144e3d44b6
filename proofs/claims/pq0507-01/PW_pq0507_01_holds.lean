import PyProof.Rows.All
import Wide.All
import OpenK.AllK
import Wide.FinOn
import PySem.Challenge.RW_pq0507_01
open PySem PySem.W PyProof.Rows
set_option Elab.async false
set_option maxRecDepth 100000
set_option maxHeartbeats 8000000
set_option linter.unusedVariables false
namespace Mine
noncomputable section

abbrev R : OpenLaw := PySem.Challenge.rw_pq0507_01
abbrev pw : Program := PySem.Challenge.pw_pq0507_01
abbrev lawRow : String := "special-get-raises"
noncomputable def loose : List Str := (["_wall", "SIMPLE_ESCAPES", "OPERATORS", "DEEPEST_KEY", "Thing", "Text", "ListThing", "TableThing", "RangeThing", "ProcThing", "ErrorThing", "FiberThing", "ModuleThing", "sort_of", "same", "code_of", "is_word", "is_label", "is_plain_symbol", "full_name", "show_letter", "show_text", "show_symbol", "show_pair"] : List Str) ++ (["show_range", "show_thing", "show_error", "show", "Result", "show_raised", "result_of", "GemError", "StepsOver", "Raised", "raise_version", "own_module", "MODULES", "BUILTINS", "MIXED", "UNMADE", "World", "_law_box", "_law_take", "_law_quoted", "_law_word", "_law_key", "_law_value", "_law_error"] : List Str)
noncomputable def q : Program := view pw [54]
noncomputable def o11 : Obj := { cls := .type "tuple", data := .seq #[] }
noncomputable def o12 : Obj := { cls := .none, data := .fields #[] }
noncomputable def o13 : Obj := { cls := .type "code", data := .fields #[.str "<module>" 182, .str "<module>" 183, .str "/claim/cut.py" 184, .int 1 0, .int 0 0, .int 0 0, .int 0 0, .int 0 0, .ref 11, .bool false, .int 181 0, .ref 12, .none, .none, .none, .none, .int 185 0, .int 1 0, .str "/claim/cut.py" 186] }
noncomputable def o14 : Obj := { cls := .type "frame", slots := #[some (.ref 13), some (.ref 3), some (.ref 3), none, some (.str "__main__" 164), none, some (.ref 0)] }
noncomputable def heapA (P : Params) : Heap := { objs := ⟨[boot_o_0 P, boot_o_1 P, boot_o_2 P, boot_o_3 P, boot_o_4 P, boot_o_5 P, boot_o_6 P, boot_o_7 P, boot_o_8 P, boot_o_9 P, boot_o_10 P, o11, o12, o13, o14]⟩ }
noncomputable def treeB (P : Params) : BT := .node (boot_o_0 P)
    (.node (boot_o_1 P) (.node (boot_o_3 P) (.node (boot_o_7 P) .nil .nil) (.node o11 .nil .nil)) (.node (boot_o_5 P) (.node (boot_o_9 P) .nil .nil) (.node o13 .nil .nil)))
    (.node (boot_o_2 P) (.node (boot_o_4 P) (.node (boot_o_8 P) .nil .nil) (.node o12 .nil .nil)) (.node (boot_o_6 P) (.node (boot_o_10 P) .nil .nil) (.node o14 .nil .nil)))
noncomputable def env0 : Env := { scope := pw.main.scope, locals := mainNs, globals := mainNs, cells := [], code := .ref 13, frame := some 14 }
noncomputable def pos0 : Pos := ⟨0, 0, 0, 0⟩
noncomputable def posE : Pos := ⟨565, 0, 587, 67⟩
abbrev bodyE : List Stmt := behindTheImports pw
abbrev codeE : Code := .body bodyE env0
noncomputable def fbody : Stmt → List Stmt
  | .FunctionDef _ _ b _ _ _ _ _ _ _ => b
  | _ => []
noncomputable def fargs : Stmt → Arguments
  | .FunctionDef _ a _ _ _ _ _ _ _ _ => a
  | _ => default
noncomputable def fscope : Stmt → Scope
  | .FunctionDef _ _ _ _ _ _ s _ _ _ => s
  | _ => default
noncomputable def nth : List Stmt → Nat → Stmt
  | [], _ => .Pass default
  | s :: _, 0 => s
  | _ :: r, n + 1 => nth r n
noncomputable def cbody : Stmt → List Stmt
  | .ClassDef _ _ _ b _ _ _ _ _ _ _ => b
  | _ => []
noncomputable def topS (i : Nat) : Stmt := nth pw.main.body i
noncomputable def clsS (i j : Nat) : Stmt := nth (cbody (topS i)) j
abbrev DRow := Str × Nat × Value
noncomputable def kdict (P : Params) (c : Value) (d : Option Addr) (rows : List DRow) (n : Nat) (sl : Array (Option Value)) : Obj := ⟨c, d, .dict (rows.map fun r => ⟨PyData.keyHash P r.1, .str r.1 r.2.1, r.2.2⟩).toArray n, sl⟩
noncomputable def k2 (P : Params) : Obj := kdict P (.none) none ([] : List DRow) 0 #[]
noncomputable def k3 (P : Params) : Obj := kdict P (.type "dict") none (([("__name__", 165, .str "law_pq0507_01" 1367), ("__doc__", 166, .none), ("__package__", 167, .none), ("__loader__", 168, .builtin "__main__.__loader__#opaque"), ("__spec__", 169, .none), ("__annotations__", 170, .ref 6), ("__builtins__", 171, .ref 4), ("__file__", 173, .str "/claim/cut.py" 172), ("__cached__", 174, .none), ("_wall", 193, .ref 21), ("SIMPLE_ESCAPES", 229, .ref 22), ("OPERATORS", 257, .ref 23), ("DEEPEST_KEY", 259, .int 12 258), ("Thing", 294, .ref 40), ("Text", 322, .ref 62), ("ListThing", 349, .ref 82), ("TableThing", 401, .ref 120), ("RangeThing", 432, .ref 140), ("ProcThing", 475, .ref 161), ("ErrorThing", 503, .ref 181)] : List DRow) ++ ([("FiberThing", 533, .ref 201), ("ModuleThing", 580, .ref 228), ("sort_of", 587, .ref 237), ("same", 596, .ref 244), ("code_of", 602, .ref 250), ("is_word", 610, .ref 257), ("is_label", 617, .ref 264), ("is_plain_symbol", 624, .ref 271), ("full_name", 631, .ref 278), ("show_letter", 641, .ref 285), ("show_text", 647, .ref 290), ("show_symbol", 654, .ref 297), ("show_pair", 663, .ref 304), ("show_range", 673, .ref 311), ("show_thing", 679, .ref 316), ("show_error", 690, .ref 323), ("show", 700, .ref 331), ("Result", 744, .ref 355), ("show_raised", 752, .ref 366), ("result_of", 762, .ref 373)] : List DRow) ++ ([("GemError", 792, .ref 391), ("StepsOver", 817, .ref 411), ("Raised", 842, .ref 430), ("raise_version", 851, .ref 439), ("own_module", 860, .ref 446), ("MODULES", 866, .ref 447), ("BUILTINS", 983, .ref 448), ("MIXED", 1005, .ref 451), ("UNMADE", 1012, .ref 459), ("World", 1366, .ref 714), ("_law_box", 1378, .ref 725), ("_law_take", 1388, .ref 732), ("_law_quoted", 1399, .ref 739), ("_law_word", 1406, .ref 746), ("_law_key", 1418, .ref 753), ("_law_value", 1424, .ref 758), ("_law_error", 1438, .ref 765), ("law", 1444, .ref 770)] : List DRow)) 58 #[]
noncomputable def k22 (P : Params) : Obj := kdict P (.type "dict") none (([("\\", 196, .str "\\\\" 197), ("\"", 198, .str "\\\"" 199), ("\n", 200, .str "\\n" 201), ("\t", 202, .str "\\t" 203), ("\x0d", 204, .str "\\r" 205), ("\x1b", 206, .str "\\e" 207), ("\x07", 208, .str "\\a" 209), ("\x08", 210, .str "\\b" 211), ("\x0b", 212, .str "\\v" 213), ("\x0c", 214, .str "\\f" 215), ("\x7f", 216, .str "\\x7F" 217)] : List DRow)) 11 #[]
noncomputable def k23 (P : Params) : Obj := ⟨.type "tuple", none, .seq [.str "+" 230, .str "-" 231, .str "*" 232, .str "/" 233, .str "%" 234, .str "**" 235, .str "==" 236, .str "!=" 237, .str "<" 238, .str ">" 239, .str "<=" 240, .str ">=" 241, .str "<=>" 242, .str "===" 243, .str "[]" 244, .str "[]=" 245, .str "<<" 246, .str ">>" 247, .str "!" 248, .str "~" 249, .str "+@" 250, .str "-@" 251, .str "&" 252, .str "|" 253, .str "^" 254, .str "=~" 255, .str "!~" 256].toArray 0, #[]⟩
noncomputable def k36 (P : Params) : Obj := ⟨.type "code", none, .fields [.str "__init__" 272, .str "Thing.__init__" 273, .str "/claim/cut.py" 274, .int 10 0, .int 3 0, .int 0 0, .int 0 0, .int 3 0, .ref 31, .bool true, .int 181 0, .ref 32, .none, .ref 33, .ref 34, .ref 35, .int 278 0, .int 10 0, .str "/claim/cut.py" 279].toArray, #[]⟩
noncomputable def k37 (P : Params) : Obj := ⟨.type "function", none, .func (fnOf "__init__" "Thing.__init__" (fargs (clsS 5 0)) (fbody (clsS 5 0)) (fscope (clsS 5 0)) (.none) .none (.none) (.str "gemrows.things" 194) none (.ref 36) .none), #[]⟩
noncomputable def k39 (P : Params) : Obj := kdict P (.type "dict") none (([("__module__", 267, .str "gemrows.things" 194), ("__firstlineno__", 271, .int 8 270), ("__init__", 280, .ref 37), ("__static_attributes__", 287, .ref 38), ("__dict__", 289, .ref 41), ("__weakref__", 291, .ref 42), ("__doc__", 292, .none)] : List DRow)) 4 #[]
noncomputable def k40 (P : Params) : Obj := ⟨.type "type", none, .cls ({ name := Str.ofString "Thing", bases := [Value.type "object"], mro := [Value.ref 40, Value.type "object"], ns := 39, qualname := Str.ofString "Thing", subclasses := [Value.ref 62, Value.ref 82, Value.ref 120, Value.ref 140, Value.ref 161, Value.ref 181, Value.ref 201, Value.ref 228] }), #[none, none, some (.str "Thing" 260), some (.str "Thing" 268), some (.builtin "object.__new__"), some (.bool true)]⟩
noncomputable def k52 (P : Params) : Obj := ⟨.type "tuple", none, .seq [.str "" 307].toArray 0, #[]⟩
noncomputable def k58 (P : Params) : Obj := ⟨.type "code", none, .fields [.str "__init__" 308, .str "Text.__init__" 309, .str "/claim/cut.py" 310, .int 19 0, .int 4 0, .int 0 0, .int 0 0, .int 3 0, .ref 53, .bool true, .int 181 0, .ref 54, .none, .ref 55, .ref 56, .ref 57, .int 315 0, .int 19 0, .str "/claim/cut.py" 316].toArray, #[]⟩
noncomputable def k59 (P : Params) : Obj := ⟨.type "function", none, .func (fnOf "__init__" "Text.__init__" (fargs (clsS 6 0)) (fbody (clsS 6 0)) (fscope (clsS 6 0)) (.ref 52) .none (.none) (.str "gemrows.things" 194) none (.ref 58) .none), #[]⟩
noncomputable def k61 (P : Params) : Obj := kdict P (.type "dict") none (([("__module__", 302, .str "gemrows.things" 194), ("__firstlineno__", 306, .int 17 305), ("__init__", 317, .ref 59), ("__static_attributes__", 319, .ref 60), ("__doc__", 320, .none)] : List DRow)) 2 #[]
noncomputable def k62 (P : Params) : Obj := ⟨.type "type", none, .cls ({ name := Str.ofString "Text", bases := [Value.ref 40], mro := [Value.ref 62, Value.ref 40, Value.type "object"], ns := 61, qualname := Str.ofString "Text" }), #[some (.ref 45), none, some (.str "Text" 295), some (.str "Text" 303), some (.builtin "object.__new__"), some (.bool true)]⟩
noncomputable def k72 (P : Params) : Obj := ⟨.type "tuple", none, .seq [.none].toArray 0, #[]⟩
noncomputable def k78 (P : Params) : Obj := ⟨.type "code", none, .fields [.str "__init__" 335, .str "ListThing.__init__" 336, .str "/claim/cut.py" 337, .int 24 0, .int 4 0, .int 0 0, .int 0 0, .int 3 0, .ref 73, .bool true, .int 181 0, .ref 74, .none, .ref 75, .ref 76, .ref 77, .int 342 0, .int 24 0, .str "/claim/cut.py" 343].toArray, #[]⟩
noncomputable def k79 (P : Params) : Obj := ⟨.type "function", none, .func (fnOf "__init__" "ListThing.__init__" (fargs (clsS 7 0)) (fbody (clsS 7 0)) (fscope (clsS 7 0)) (.ref 72) .none (.none) (.str "gemrows.things" 194) none (.ref 78) .none), #[]⟩
noncomputable def k81 (P : Params) : Obj := kdict P (.type "dict") none (([("__module__", 330, .str "gemrows.things" 194), ("__firstlineno__", 334, .int 22 333), ("__init__", 344, .ref 79), ("__static_attributes__", 346, .ref 80), ("__doc__", 347, .none)] : List DRow)) 2 #[]
noncomputable def k82 (P : Params) : Obj := ⟨.type "type", none, .cls ({ name := Str.ofString "ListThing", bases := [Value.ref 40], mro := [Value.ref 82, Value.ref 40, Value.type "object"], ns := 81, qualname := Str.ofString "ListThing" }), #[some (.ref 65), none, some (.str "ListThing" 323), some (.str "ListThing" 331), some (.builtin "object.__new__"), some (.bool true)]⟩
noncomputable def k97 (P : Params) : Obj := ⟨.type "code", none, .fields [.str "__init__" 362, .str "TableThing.__init__" 363, .str "/claim/cut.py" 364, .int 29 0, .int 3 0, .int 0 0, .int 0 0, .int 3 0, .ref 92, .bool true, .int 181 0, .ref 93, .none, .ref 94, .ref 95, .ref 96, .int 368 0, .int 29 0, .str "/claim/cut.py" 369].toArray, #[]⟩
noncomputable def k98 (P : Params) : Obj := ⟨.type "function", none, .func (fnOf "__init__" "TableThing.__init__" (fargs (clsS 8 0)) (fbody (clsS 8 0)) (fscope (clsS 8 0)) (.none) .none (.none) (.str "gemrows.things" 194) none (.ref 97) .none), #[]⟩
noncomputable def k104 (P : Params) : Obj := ⟨.type "code", none, .fields [.str "put" 371, .str "TableThing.put" 372, .str "/claim/cut.py" 373, .int 34 0, .int 3 0, .int 0 0, .int 0 0, .int 3 0, .ref 99, .bool true, .int 181 0, .ref 100, .none, .ref 101, .ref 102, .ref 103, .int 379 0, .int 34 0, .str "/claim/cut.py" 380].toArray, #[]⟩
noncomputable def k105 (P : Params) : Obj := ⟨.type "function", none, .func (fnOf "put" "TableThing.put" (fargs (clsS 8 1)) (fbody (clsS 8 1)) (fscope (clsS 8 1)) (.none) .none (.none) (.str "gemrows.things" 194) none (.ref 104) .none), #[]⟩
noncomputable def k116 (P : Params) : Obj := ⟨.type "code", none, .fields [.str "pairs" 390, .str "TableThing.pairs" 391, .str "/claim/cut.py" 392, .int 45 0, .int 1 0, .int 0 0, .int 0 0, .int 3 0, .ref 113, .bool true, .int 181 0, .ref 114, .none, .none, .none, .ref 115, .int 393 0, .int 45 0, .str "/claim/cut.py" 394].toArray, #[]⟩
noncomputable def k117 (P : Params) : Obj := ⟨.type "function", none, .func (fnOf "pairs" "TableThing.pairs" (fargs (clsS 8 3)) (fbody (clsS 8 3)) (fscope (clsS 8 3)) (.none) .none (.none) (.str "gemrows.things" 194) none (.ref 116) .none), #[]⟩
noncomputable def k119 (P : Params) : Obj := kdict P (.type "dict") none (([("__module__", 357, .str "gemrows.things" 194), ("__firstlineno__", 361, .int 27 360), ("__init__", 370, .ref 98), ("put", 381, .ref 105), ("row", 389, .ref 112), ("pairs", 395, .ref 117), ("__static_attributes__", 398, .ref 118), ("__doc__", 399, .none)] : List DRow)) 2 #[]
noncomputable def k120 (P : Params) : Obj := ⟨.type "type", none, .cls ({ name := Str.ofString "TableThing", bases := [Value.ref 40], mro := [Value.ref 120, Value.ref 40, Value.type "object"], ns := 119, qualname := Str.ofString "TableThing" }), #[some (.ref 85), none, some (.str "TableThing" 350), some (.str "TableThing" 358), some (.builtin "object.__new__"), some (.bool true)]⟩
noncomputable def k130 (P : Params) : Obj := ⟨.type "tuple", none, .seq [.none, .none, .bool false].toArray 0, #[]⟩
noncomputable def k136 (P : Params) : Obj := ⟨.type "code", none, .fields [.str "__init__" 414, .str "RangeThing.__init__" 415, .str "/claim/cut.py" 416, .int 49 0, .int 6 0, .int 0 0, .int 0 0, .int 3 0, .ref 131, .bool true, .int 181 0, .ref 132, .none, .ref 133, .ref 134, .ref 135, .int 423 0, .int 49 0, .str "/claim/cut.py" 424].toArray, #[]⟩
noncomputable def k137 (P : Params) : Obj := ⟨.type "function", none, .func (fnOf "__init__" "RangeThing.__init__" (fargs (clsS 9 0)) (fbody (clsS 9 0)) (fscope (clsS 9 0)) (.ref 130) .none (.none) (.str "gemrows.things" 194) none (.ref 136) .none), #[]⟩
noncomputable def k139 (P : Params) : Obj := kdict P (.type "dict") none (([("__module__", 409, .str "gemrows.things" 194), ("__firstlineno__", 413, .int 47 412), ("__init__", 425, .ref 137), ("__static_attributes__", 429, .ref 138), ("__doc__", 430, .none)] : List DRow)) 2 #[]
noncomputable def k140 (P : Params) : Obj := ⟨.type "type", none, .cls ({ name := Str.ofString "RangeThing", bases := [Value.ref 40], mro := [Value.ref 140, Value.ref 40, Value.type "object"], ns := 139, qualname := Str.ofString "RangeThing" }), #[some (.ref 123), none, some (.str "RangeThing" 402), some (.str "RangeThing" 410), some (.builtin "object.__new__"), some (.bool true)]⟩
noncomputable def k160 (P : Params) : Obj := kdict P (.type "dict") none (([("__module__", 440, .str "gemrows.things" 194), ("__firstlineno__", 444, .int 54 443), ("__init__", 462, .ref 158), ("__static_attributes__", 472, .ref 159), ("__doc__", 473, .none)] : List DRow)) 2 #[]
noncomputable def k161 (P : Params) : Obj := ⟨.type "type", none, .cls ({ name := Str.ofString "ProcThing", bases := [Value.ref 40], mro := [Value.ref 161, Value.ref 40, Value.type "object"], ns := 160, qualname := Str.ofString "ProcThing" }), #[some (.ref 143), none, some (.str "ProcThing" 433), some (.str "ProcThing" 441), some (.builtin "object.__new__"), some (.bool true)]⟩
noncomputable def k171 (P : Params) : Obj := ⟨.type "tuple", none, .seq [.none].toArray 0, #[]⟩
noncomputable def k177 (P : Params) : Obj := ⟨.type "code", none, .fields [.str "__init__" 488, .str "ErrorThing.__init__" 489, .str "/claim/cut.py" 490, .int 69 0, .int 4 0, .int 0 0, .int 0 0, .int 3 0, .ref 172, .bool true, .int 181 0, .ref 173, .none, .ref 174, .ref 175, .ref 176, .int 495 0, .int 69 0, .str "/claim/cut.py" 496].toArray, #[]⟩
noncomputable def k178 (P : Params) : Obj := ⟨.type "function", none, .func (fnOf "__init__" "ErrorThing.__init__" (fargs (clsS 11 0)) (fbody (clsS 11 0)) (fscope (clsS 11 0)) (.ref 171) .none (.none) (.str "gemrows.things" 194) none (.ref 177) .none), #[]⟩
noncomputable def k180 (P : Params) : Obj := kdict P (.type "dict") none (([("__module__", 483, .str "gemrows.things" 194), ("__firstlineno__", 487, .int 67 486), ("__init__", 497, .ref 178), ("__static_attributes__", 500, .ref 179), ("__doc__", 501, .none)] : List DRow)) 2 #[]
noncomputable def k181 (P : Params) : Obj := ⟨.type "type", none, .cls ({ name := Str.ofString "ErrorThing", bases := [Value.ref 40], mro := [Value.ref 181, Value.ref 40, Value.type "object"], ns := 180, qualname := Str.ofString "ErrorThing" }), #[some (.ref 164), none, some (.str "ErrorThing" 476), some (.str "ErrorThing" 484), some (.builtin "object.__new__"), some (.bool true)]⟩
noncomputable def k211 (P : Params) : Obj := ⟨.type "tuple", none, .seq [.none, .bool false, .none, .none].toArray 0, #[]⟩
noncomputable def k217 (P : Params) : Obj := ⟨.type "code", none, .fields [.str "__init__" 546, .str "ModuleThing.__init__" 547, .str "/claim/cut.py" 548, .int 83 0, .int 7 0, .int 0 0, .int 0 0, .int 3 0, .ref 212, .bool true, .int 181 0, .ref 213, .none, .ref 214, .ref 215, .ref 216, .int 556 0, .int 83 0, .str "/claim/cut.py" 557].toArray, #[]⟩
noncomputable def k218 (P : Params) : Obj := ⟨.type "function", none, .func (fnOf "__init__" "ModuleThing.__init__" (fargs (clsS 13 0)) (fbody (clsS 13 0)) (fscope (clsS 13 0)) (.ref 211) .none (.none) (.str "gemrows.things" 194) none (.ref 217) .none), #[]⟩
noncomputable def k227 (P : Params) : Obj := kdict P (.type "dict") none (([("__module__", 541, .str "gemrows.things" 194), ("__firstlineno__", 545, .int 81 544), ("__init__", 558, .ref 218), ("is_own", 565, .ref 225), ("__static_attributes__", 577, .ref 226), ("__doc__", 578, .none)] : List DRow)) 2 #[]
noncomputable def k228 (P : Params) : Obj := ⟨.type "type", none, .cls ({ name := Str.ofString "ModuleThing", bases := [Value.ref 40], mro := [Value.ref 228, Value.ref 40, Value.type "object"], ns := 227, qualname := Str.ofString "ModuleThing" }), #[some (.ref 204), none, some (.str "ModuleThing" 534), some (.str "ModuleThing" 542), some (.builtin "object.__new__"), some (.bool true)]⟩
noncomputable def k236 (P : Params) : Obj := ⟨.type "code", none, .fields [.str "sort_of" 581, .str "sort_of" 582, .str "/claim/cut.py" 583, .int 99 0, .int 1 0, .int 0 0, .int 0 0, .int 3 0, .ref 231, .bool true, .int 181 0, .ref 232, .none, .ref 233, .ref 234, .ref 235, .int 585 0, .int 99 0, .str "/claim/cut.py" 586].toArray, #[]⟩
noncomputable def k237 (P : Params) : Obj := ⟨.type "function", none, .func (fnOf "sort_of" "sort_of" (fargs (topS 14)) (fbody (topS 14)) (fscope (topS 14)) (.none) .none (.none) (.str "gemrows.things" 194) none (.ref 236) .none), #[]⟩
noncomputable def k243 (P : Params) : Obj := ⟨.type "code", none, .fields [.str "same" 588, .str "same" 589, .str "/claim/cut.py" 590, .int 107 0, .int 2 0, .int 0 0, .int 0 0, .int 3 0, .ref 238, .bool true, .int 181 0, .ref 239, .none, .ref 240, .ref 241, .ref 242, .int 594 0, .int 107 0, .str "/claim/cut.py" 595].toArray, #[]⟩
noncomputable def k244 (P : Params) : Obj := ⟨.type "function", none, .func (fnOf "same" "same" (fargs (topS 15)) (fbody (topS 15)) (fscope (topS 15)) (.none) .none (.none) (.str "gemrows.things" 194) none (.ref 243) .none), #[]⟩
noncomputable def k245 (P : Params) : Obj := ⟨.type "tuple", none, .seq [.int 12 258].toArray 0, #[]⟩
noncomputable def k249 (P : Params) : Obj := ⟨.type "code", none, .fields [.str "code_of" 597, .str "code_of" 598, .str "/claim/cut.py" 599, .int 112 0, .int 2 0, .int 0 0, .int 0 0, .int 3 0, .ref 246, .bool true, .int 181 0, .ref 247, .none, .none, .none, .ref 248, .int 600 0, .int 112 0, .str "/claim/cut.py" 601].toArray, #[]⟩
noncomputable def k250 (P : Params) : Obj := ⟨.type "function", none, .func (fnOf "code_of" "code_of" (fargs (topS 16)) (fbody (topS 16)) (fscope (topS 16)) (.ref 245) .none (.none) (.str "gemrows.things" 194) none (.ref 249) .none), #[]⟩
noncomputable def k256 (P : Params) : Obj := ⟨.type "code", none, .fields [.str "is_word" 603, .str "is_word" 604, .str "/claim/cut.py" 605, .int 123 0, .int 1 0, .int 0 0, .int 0 0, .int 3 0, .ref 251, .bool true, .int 181 0, .ref 252, .none, .ref 253, .ref 254, .ref 255, .int 608 0, .int 123 0, .str "/claim/cut.py" 609].toArray, #[]⟩
noncomputable def k257 (P : Params) : Obj := ⟨.type "function", none, .func (fnOf "is_word" "is_word" (fargs (topS 17)) (fbody (topS 17)) (fscope (topS 17)) (.none) .none (.none) (.str "gemrows.things" 194) none (.ref 256) .none), #[]⟩
noncomputable def k263 (P : Params) : Obj := ⟨.type "code", none, .fields [.str "is_label" 611, .str "is_label" 612, .str "/claim/cut.py" 613, .int 130 0, .int 1 0, .int 0 0, .int 0 0, .int 3 0, .ref 258, .bool true, .int 181 0, .ref 259, .none, .ref 260, .ref 261, .ref 262, .int 615 0, .int 130 0, .str "/claim/cut.py" 616].toArray, #[]⟩
noncomputable def k264 (P : Params) : Obj := ⟨.type "function", none, .func (fnOf "is_label" "is_label" (fargs (topS 18)) (fbody (topS 18)) (fscope (topS 18)) (.none) .none (.none) (.str "gemrows.things" 194) none (.ref 263) .none), #[]⟩
noncomputable def k270 (P : Params) : Obj := ⟨.type "code", none, .fields [.str "is_plain_symbol" 618, .str "is_plain_symbol" 619, .str "/claim/cut.py" 620, .int 132 0, .int 1 0, .int 0 0, .int 0 0, .int 3 0, .ref 265, .bool true, .int 181 0, .ref 266, .none, .ref 267, .ref 268, .ref 269, .int 622 0, .int 132 0, .str "/claim/cut.py" 623].toArray, #[]⟩
noncomputable def k271 (P : Params) : Obj := ⟨.type "function", none, .func (fnOf "is_plain_symbol" "is_plain_symbol" (fargs (topS 19)) (fbody (topS 19)) (fscope (topS 19)) (.none) .none (.none) (.str "gemrows.things" 194) none (.ref 270) .none), #[]⟩
noncomputable def k277 (P : Params) : Obj := ⟨.type "code", none, .fields [.str "full_name" 625, .str "full_name" 626, .str "/claim/cut.py" 627, .int 140 0, .int 1 0, .int 0 0, .int 0 0, .int 3 0, .ref 272, .bool true, .int 181 0, .ref 273, .none, .ref 274, .ref 275, .ref 276, .int 629 0, .int 140 0, .str "/claim/cut.py" 630].toArray, #[]⟩
noncomputable def k278 (P : Params) : Obj := ⟨.type "function", none, .func (fnOf "full_name" "full_name" (fargs (topS 20)) (fbody (topS 20)) (fscope (topS 20)) (.none) .none (.none) (.str "gemrows.things" 194) none (.ref 277) .none), #[]⟩
noncomputable def k284 (P : Params) : Obj := ⟨.type "code", none, .fields [.str "show_letter" 632, .str "show_letter" 633, .str "/claim/cut.py" 634, .int 148 0, .int 2 0, .int 0 0, .int 0 0, .int 3 0, .ref 279, .bool true, .int 181 0, .ref 280, .none, .ref 281, .ref 282, .ref 283, .int 639 0, .int 148 0, .str "/claim/cut.py" 640].toArray, #[]⟩
noncomputable def k285 (P : Params) : Obj := ⟨.type "function", none, .func (fnOf "show_letter" "show_letter" (fargs (topS 21)) (fbody (topS 21)) (fscope (topS 21)) (.none) .none (.none) (.str "gemrows.things" 194) none (.ref 284) .none), #[]⟩
noncomputable def k289 (P : Params) : Obj := ⟨.type "code", none, .fields [.str "show_text" 642, .str "show_text" 643, .str "/claim/cut.py" 644, .int 158 0, .int 1 0, .int 0 0, .int 0 0, .int 3 0, .ref 286, .bool true, .int 181 0, .ref 287, .none, .none, .none, .ref 288, .int 645 0, .int 158 0, .str "/claim/cut.py" 646].toArray, #[]⟩
noncomputable def k290 (P : Params) : Obj := ⟨.type "function", none, .func (fnOf "show_text" "show_text" (fargs (topS 22)) (fbody (topS 22)) (fscope (topS 22)) (.none) .none (.none) (.str "gemrows.things" 194) none (.ref 289) .none), #[]⟩
noncomputable def k296 (P : Params) : Obj := ⟨.type "code", none, .fields [.str "show_symbol" 648, .str "show_symbol" 649, .str "/claim/cut.py" 650, .int 161 0, .int 1 0, .int 0 0, .int 0 0, .int 3 0, .ref 291, .bool true, .int 181 0, .ref 292, .none, .ref 293, .ref 294, .ref 295, .int 652 0, .int 161 0, .str "/claim/cut.py" 653].toArray, #[]⟩
noncomputable def k297 (P : Params) : Obj := ⟨.type "function", none, .func (fnOf "show_symbol" "show_symbol" (fargs (topS 23)) (fbody (topS 23)) (fscope (topS 23)) (.none) .none (.none) (.str "gemrows.things" 194) none (.ref 296) .none), #[]⟩
noncomputable def k303 (P : Params) : Obj := ⟨.type "code", none, .fields [.str "show_pair" 655, .str "show_pair" 656, .str "/claim/cut.py" 657, .int 163 0, .int 3 0, .int 0 0, .int 0 0, .int 3 0, .ref 298, .bool true, .int 181 0, .ref 299, .none, .ref 300, .ref 301, .ref 302, .int 661 0, .int 163 0, .str "/claim/cut.py" 662].toArray, #[]⟩
noncomputable def k304 (P : Params) : Obj := ⟨.type "function", none, .func (fnOf "show_pair" "show_pair" (fargs (topS 24)) (fbody (topS 24)) (fscope (topS 24)) (.none) .none (.none) (.str "gemrows.things" 194) none (.ref 303) .none), #[]⟩
noncomputable def k310 (P : Params) : Obj := ⟨.type "code", none, .fields [.str "show_range" 664, .str "show_range" 665, .str "/claim/cut.py" 666, .int 167 0, .int 2 0, .int 0 0, .int 0 0, .int 3 0, .ref 305, .bool true, .int 181 0, .ref 306, .none, .ref 307, .ref 308, .ref 309, .int 671 0, .int 167 0, .str "/claim/cut.py" 672].toArray, #[]⟩
noncomputable def k311 (P : Params) : Obj := ⟨.type "function", none, .func (fnOf "show_range" "show_range" (fargs (topS 25)) (fbody (topS 25)) (fscope (topS 25)) (.none) .none (.none) (.str "gemrows.things" 194) none (.ref 310) .none), #[]⟩
noncomputable def k315 (P : Params) : Obj := ⟨.type "code", none, .fields [.str "show_thing" 674, .str "show_thing" 675, .str "/claim/cut.py" 676, .int 171 0, .int 2 0, .int 0 0, .int 0 0, .int 3 0, .ref 312, .bool true, .int 181 0, .ref 313, .none, .none, .none, .ref 314, .int 677 0, .int 171 0, .str "/claim/cut.py" 678].toArray, #[]⟩
noncomputable def k316 (P : Params) : Obj := ⟨.type "function", none, .func (fnOf "show_thing" "show_thing" (fargs (topS 26)) (fbody (topS 26)) (fscope (topS 26)) (.none) .none (.none) (.str "gemrows.things" 194) none (.ref 315) .none), #[]⟩
noncomputable def k322 (P : Params) : Obj := ⟨.type "code", none, .fields [.str "show_error" 680, .str "show_error" 681, .str "/claim/cut.py" 682, .int 192 0, .int 3 0, .int 0 0, .int 0 0, .int 3 0, .ref 317, .bool true, .int 181 0, .ref 318, .none, .ref 319, .ref 320, .ref 321, .int 688 0, .int 192 0, .str "/claim/cut.py" 689].toArray, #[]⟩
noncomputable def k323 (P : Params) : Obj := ⟨.type "function", none, .func (fnOf "show_error" "show_error" (fargs (topS 27)) (fbody (topS 27)) (fscope (topS 27)) (.none) .none (.none) (.str "gemrows.things" 194) none (.ref 322) .none), #[]⟩
noncomputable def k324 (P : Params) : Obj := ⟨.type "tuple", none, .seq [.int 6 691].toArray 0, #[]⟩
noncomputable def k330 (P : Params) : Obj := ⟨.type "code", none, .fields [.str "show" 692, .str "show" 693, .str "/claim/cut.py" 694, .int 198 0, .int 2 0, .int 0 0, .int 0 0, .int 3 0, .ref 325, .bool true, .int 181 0, .ref 326, .none, .ref 327, .ref 328, .ref 329, .int 698 0, .int 198 0, .str "/claim/cut.py" 699].toArray, #[]⟩
noncomputable def k331 (P : Params) : Obj := ⟨.type "function", none, .func (fnOf "show" "show" (fargs (topS 28)) (fbody (topS 28)) (fscope (topS 28)) (.ref 324) .none (.none) (.str "gemrows.things" 194) none (.ref 330) .none), #[]⟩
noncomputable def k344 (P : Params) : Obj := ⟨.type "code", none, .fields [.str "__init__" 715, .str "Result.__init__" 716, .str "/claim/cut.py" 717, .int 212 0, .int 5 0, .int 0 0, .int 0 0, .int 3 0, .ref 339, .bool true, .int 181 0, .ref 340, .none, .ref 341, .ref 342, .ref 343, .int 723 0, .int 212 0, .str "/claim/cut.py" 724].toArray, #[]⟩
noncomputable def k345 (P : Params) : Obj := ⟨.type "function", none, .func (fnOf "__init__" "Result.__init__" (fargs (clsS 30 0)) (fbody (clsS 30 0)) (fscope (clsS 30 0)) (.none) .none (.none) (.str "gemrows.main" 701) none (.ref 344) .none), #[]⟩
noncomputable def k351 (P : Params) : Obj := ⟨.type "code", none, .fields [.str "told" 726, .str "Result.told" 727, .str "/claim/cut.py" 728, .int 218 0, .int 1 0, .int 0 0, .int 0 0, .int 3 0, .ref 346, .bool true, .int 181 0, .ref 347, .none, .ref 348, .ref 349, .ref 350, .int 730 0, .int 218 0, .str "/claim/cut.py" 731].toArray, #[]⟩
noncomputable def k352 (P : Params) : Obj := ⟨.type "function", none, .func (fnOf "told" "Result.told" (fargs (clsS 30 1)) (fbody (clsS 30 1)) (fscope (clsS 30 1)) (.none) .none (.none) (.str "gemrows.main" 701) none (.ref 351) .none), #[]⟩
noncomputable def k354 (P : Params) : Obj := kdict P (.type "dict") none (([("__module__", 710, .str "gemrows.main" 701), ("__firstlineno__", 714, .int 210 713), ("__init__", 725, .ref 345), ("told", 732, .ref 352), ("__static_attributes__", 737, .ref 353), ("__dict__", 739, .ref 356), ("__weakref__", 741, .ref 357), ("__doc__", 742, .none)] : List DRow)) 4 #[]
noncomputable def k355 (P : Params) : Obj := ⟨.type "type", none, .cls ({ name := Str.ofString "Result", bases := [Value.type "object"], mro := [Value.ref 355, Value.type "object"], ns := 354, qualname := Str.ofString "Result" }), #[none, none, some (.str "Result" 703), some (.str "Result" 711), some (.builtin "object.__new__"), some (.bool true)]⟩
noncomputable def k365 (P : Params) : Obj := ⟨.type "code", none, .fields [.str "show_raised" 745, .str "show_raised" 746, .str "/claim/cut.py" 747, .int 220 0, .int 1 0, .int 0 0, .int 0 0, .int 3 0, .ref 360, .bool true, .int 181 0, .ref 361, .none, .ref 362, .ref 363, .ref 364, .int 750 0, .int 220 0, .str "/claim/cut.py" 751].toArray, #[]⟩
noncomputable def k366 (P : Params) : Obj := ⟨.type "function", none, .func (fnOf "show_raised" "show_raised" (fargs (topS 31)) (fbody (topS 31)) (fscope (topS 31)) (.none) .none (.none) (.str "gemrows.main" 701) none (.ref 365) .none), #[]⟩
noncomputable def k372 (P : Params) : Obj := ⟨.type "code", none, .fields [.str "result_of" 753, .str "result_of" 754, .str "/claim/cut.py" 755, .int 225 0, .int 3 0, .int 0 0, .int 0 0, .int 3 0, .ref 367, .bool true, .int 181 0, .ref 368, .none, .ref 369, .ref 370, .ref 371, .int 760 0, .int 225 0, .str "/claim/cut.py" 761].toArray, #[]⟩
noncomputable def k373 (P : Params) : Obj := ⟨.type "function", none, .func (fnOf "result_of" "result_of" (fargs (topS 32)) (fbody (topS 32)) (fscope (topS 32)) (.none) .none (.none) (.str "gemrows.main" 701) none (.ref 372) .none), #[]⟩
noncomputable def k447 (P : Params) : Obj := ⟨.type "tuple", none, .seq [.str "Kernel" 863, .str "Comparable" 864, .str "Enumerable" 865].toArray 0, #[]⟩
noncomputable def k448 (P : Params) : Obj := kdict P (.type "dict") none (([("BasicObject", 867, .none), ("Object", 869, .str "BasicObject" 870), ("Module", 872, .str "Object" 873), ("Class", 875, .str "Module" 876), ("Kernel", 878, .none), ("Comparable", 880, .none), ("Enumerable", 882, .none), ("NilClass", 884, .str "Object" 885), ("TrueClass", 887, .str "Object" 888), ("FalseClass", 890, .str "Object" 891), ("Numeric", 893, .str "Object" 894), ("Integer", 896, .str "Numeric" 897), ("String", 899, .str "Object" 900), ("Symbol", 902, .str "Object" 903), ("Array", 905, .str "Object" 906), ("Hash", 908, .str "Object" 909), ("Range", 911, .str "Object" 912), ("Proc", 914, .str "Object" 915), ("Fiber", 917, .str "Object" 918), ("Exception", 920, .str "Object" 921)] : List DRow) ++ ([("ScriptError", 923, .str "Exception" 924), ("NotImplementedError", 926, .str "ScriptError" 927), ("SystemStackError", 929, .str "Exception" 930), ("StandardError", 932, .str "Exception" 933), ("ArgumentError", 935, .str "StandardError" 936), ("UncaughtThrowError", 938, .str "ArgumentError" 939), ("FiberError", 941, .str "StandardError" 942), ("IndexError", 944, .str "StandardError" 945), ("KeyError", 947, .str "IndexError" 948), ("StopIteration", 950, .str "IndexError" 951), ("LocalJumpError", 953, .str "StandardError" 954), ("NameError", 956, .str "StandardError" 957), ("NoMethodError", 959, .str "NameError" 960), ("NoMatchingPatternError", 962, .str "StandardError" 963), ("NoMatchingPatternKeyError", 965, .str "NoMatchingPatternError" 966), ("RangeError", 967, .str "StandardError" 968), ("RuntimeError", 969, .str "StandardError" 970), ("FrozenError", 971, .str "RuntimeError" 972), ("TypeError", 973, .str "StandardError" 974), ("ZeroDivisionError", 975, .str "StandardError" 976)] : List DRow)) 40 #[]
noncomputable def k451 (P : Params) : Obj := kdict P (.type "dict") none (([("Object", 984, .ref 452), ("Numeric", 986, .ref 453), ("String", 988, .ref 454), ("Symbol", 990, .ref 455), ("Array", 992, .ref 456), ("Hash", 994, .ref 457), ("Range", 996, .ref 458)] : List DRow)) 7 #[]
noncomputable def k452 (P : Params) : Obj := ⟨.type "tuple", none, .seq [.str "Kernel" 985].toArray 0, #[]⟩
noncomputable def k453 (P : Params) : Obj := ⟨.type "tuple", none, .seq [.str "Comparable" 987].toArray 0, #[]⟩
noncomputable def k454 (P : Params) : Obj := ⟨.type "tuple", none, .seq [.str "Comparable" 989].toArray 0, #[]⟩
noncomputable def k455 (P : Params) : Obj := ⟨.type "tuple", none, .seq [.str "Comparable" 991].toArray 0, #[]⟩
noncomputable def k456 (P : Params) : Obj := ⟨.type "tuple", none, .seq [.str "Enumerable" 993].toArray 0, #[]⟩
noncomputable def k457 (P : Params) : Obj := ⟨.type "tuple", none, .seq [.str "Enumerable" 995].toArray 0, #[]⟩
noncomputable def k458 (P : Params) : Obj := ⟨.type "tuple", none, .seq [.str "Enumerable" 997].toArray 0, #[]⟩
noncomputable def k459 (P : Params) : Obj := ⟨.type "tuple", none, .seq [.str "NilClass" 1006, .str "TrueClass" 1007, .str "FalseClass" 1008, .str "Integer" 1009, .str "Numeric" 1010, .str "Symbol" 1011].toArray 0, #[]⟩
noncomputable def k467 (P : Params) : Obj := ⟨.type "tuple", none, .seq [.none, .none, .int 20000 1025].toArray 0, #[]⟩
noncomputable def k473 (P : Params) : Obj := ⟨.type "code", none, .fields [.str "__init__" 1026, .str "World.__init__" 1027, .str "/claim/cut.py" 1028, .int 271 0, .int 5 0, .int 0 0, .int 0 0, .int 3 0, .ref 468, .bool true, .int 181 0, .ref 469, .none, .ref 470, .ref 471, .ref 472, .int 1035 0, .int 271 0, .str "/claim/cut.py" 1036].toArray, #[]⟩
noncomputable def k474 (P : Params) : Obj := ⟨.type "function", none, .func (fnOf "__init__" "World.__init__" (fargs (clsS 45 0)) (fbody (clsS 45 0)) (fscope (clsS 45 0)) (.ref 467) .none (.none) (.str "gemrows.world" 861) none (.ref 473) .none), #[]⟩
noncomputable def k480 (P : Params) : Obj := ⟨.type "code", none, .fields [.str "tick" 1038, .str "World.tick" 1039, .str "/claim/cut.py" 1040, .int 291 0, .int 1 0, .int 0 0, .int 0 0, .int 3 0, .ref 475, .bool true, .int 181 0, .ref 476, .none, .ref 477, .ref 478, .ref 479, .int 1042 0, .int 291 0, .str "/claim/cut.py" 1043].toArray, #[]⟩
noncomputable def k481 (P : Params) : Obj := ⟨.type "function", none, .func (fnOf "tick" "World.tick" (fargs (clsS 45 1)) (fbody (clsS 45 1)) (fscope (clsS 45 1)) (.none) .none (.none) (.str "gemrows.world" 861) none (.ref 480) .none), #[]⟩
noncomputable def k487 (P : Params) : Obj := ⟨.type "code", none, .fields [.str "write" 1045, .str "World.write" 1046, .str "/claim/cut.py" 1047, .int 296 0, .int 2 0, .int 0 0, .int 0 0, .int 3 0, .ref 482, .bool true, .int 181 0, .ref 483, .none, .ref 484, .ref 485, .ref 486, .int 1050 0, .int 296 0, .str "/claim/cut.py" 1051].toArray, #[]⟩
noncomputable def k488 (P : Params) : Obj := ⟨.type "function", none, .func (fnOf "write" "World.write" (fargs (clsS 45 2)) (fbody (clsS 45 2)) (fscope (clsS 45 2)) (.none) .none (.none) (.str "gemrows.world" 861) none (.ref 487) .none), #[]⟩
noncomputable def k494 (P : Params) : Obj := ⟨.type "code", none, .fields [.str "number" 1053, .str "World.number" 1054, .str "/claim/cut.py" 1055, .int 299 0, .int 1 0, .int 0 0, .int 0 0, .int 3 0, .ref 489, .bool true, .int 181 0, .ref 490, .none, .ref 491, .ref 492, .ref 493, .int 1057 0, .int 299 0, .str "/claim/cut.py" 1058].toArray, #[]⟩
noncomputable def k495 (P : Params) : Obj := ⟨.type "function", none, .func (fnOf "number" "World.number" (fargs (clsS 45 3)) (fbody (clsS 45 3)) (fscope (clsS 45 3)) (.none) .none (.none) (.str "gemrows.world" 861) none (.ref 494) .none), #[]⟩
noncomputable def k515 (P : Params) : Obj := ⟨.type "code", none, .fields [.str "builtin" 1076, .str "World.builtin" 1077, .str "/claim/cut.py" 1078, .int 323 0, .int 2 0, .int 0 0, .int 0 0, .int 3 0, .ref 510, .bool true, .int 181 0, .ref 511, .none, .ref 512, .ref 513, .ref 514, .int 1082 0, .int 323 0, .str "/claim/cut.py" 1083].toArray, #[]⟩
noncomputable def k516 (P : Params) : Obj := ⟨.type "function", none, .func (fnOf "builtin" "World.builtin" (fargs (clsS 45 6)) (fbody (clsS 45 6)) (fscope (clsS 45 6)) (.none) .none (.none) (.str "gemrows.world" 861) none (.ref 515) .none), #[]⟩
noncomputable def k520 (P : Params) : Obj := ⟨.type "code", none, .fields [.str "make_builtin" 1085, .str "World.make_builtin" 1086, .str "/claim/cut.py" 1087, .int 327 0, .int 2 0, .int 0 0, .int 0 0, .int 3 0, .ref 517, .bool true, .int 181 0, .ref 518, .none, .none, .none, .ref 519, .int 1088 0, .int 327 0, .str "/claim/cut.py" 1089].toArray, #[]⟩
noncomputable def k521 (P : Params) : Obj := ⟨.type "function", none, .func (fnOf "make_builtin" "World.make_builtin" (fargs (clsS 45 7)) (fbody (clsS 45 7)) (fscope (clsS 45 7)) (.none) .none (.none) (.str "gemrows.world" 861) none (.ref 520) .none), #[]⟩
noncomputable def k527 (P : Params) : Obj := ⟨.type "code", none, .fields [.str "give_own" 1091, .str "World.give_own" 1092, .str "/claim/cut.py" 1093, .int 340 0, .int 2 0, .int 0 0, .int 0 0, .int 3 0, .ref 522, .bool true, .int 181 0, .ref 523, .none, .ref 524, .ref 525, .ref 526, .int 1096 0, .int 340 0, .str "/claim/cut.py" 1097].toArray, #[]⟩
noncomputable def k528 (P : Params) : Obj := ⟨.type "function", none, .func (fnOf "give_own" "World.give_own" (fargs (clsS 45 8)) (fbody (clsS 45 8)) (fscope (clsS 45 8)) (.none) .none (.none) (.str "gemrows.world" 861) none (.ref 527) .none), #[]⟩
noncomputable def k529 (P : Params) : Obj := ⟨.type "tuple", none, .seq [.none, .none, .none].toArray 0, #[]⟩
noncomputable def k535 (P : Params) : Obj := ⟨.type "code", none, .fields [.str "new_module" 1099, .str "World.new_module" 1100, .str "/claim/cut.py" 1101, .int 344 0, .int 6 0, .int 0 0, .int 0 0, .int 3 0, .ref 530, .bool true, .int 181 0, .ref 531, .none, .ref 532, .ref 533, .ref 534, .int 1111 0, .int 344 0, .str "/claim/cut.py" 1112].toArray, #[]⟩
noncomputable def k536 (P : Params) : Obj := ⟨.type "function", none, .func (fnOf "new_module" "World.new_module" (fargs (clsS 45 9)) (fbody (clsS 45 9)) (fscope (clsS 45 9)) (.ref 529) .none (.none) (.str "gemrows.world" 861) none (.ref 535) .none), #[]⟩
noncomputable def k542 (P : Params) : Obj := ⟨.type "code", none, .fields [.str "class_of" 1114, .str "World.class_of" 1115, .str "/claim/cut.py" 1116, .int 353 0, .int 2 0, .int 0 0, .int 0 0, .int 3 0, .ref 537, .bool true, .int 181 0, .ref 538, .none, .ref 539, .ref 540, .ref 541, .int 1119 0, .int 353 0, .str "/claim/cut.py" 1120].toArray, #[]⟩
noncomputable def k543 (P : Params) : Obj := ⟨.type "function", none, .func (fnOf "class_of" "World.class_of" (fargs (clsS 45 10)) (fbody (clsS 45 10)) (fscope (clsS 45 10)) (.none) .none (.none) (.str "gemrows.world" 861) none (.ref 542) .none), #[]⟩
noncomputable def k577 (P : Params) : Obj := ⟨.type "code", none, .fields [.str "text" 1154, .str "World.text" 1155, .str "/claim/cut.py" 1156, .int 376 0, .int 2 0, .int 0 0, .int 0 0, .int 3 0, .ref 572, .bool true, .int 181 0, .ref 573, .none, .ref 574, .ref 575, .ref 576, .int 1159 0, .int 376 0, .str "/claim/cut.py" 1160].toArray, #[]⟩
noncomputable def k578 (P : Params) : Obj := ⟨.type "function", none, .func (fnOf "text" "World.text" (fargs (clsS 45 15)) (fbody (clsS 45 15)) (fscope (clsS 45 15)) (.none) .none (.none) (.str "gemrows.world" 861) none (.ref 577) .none), #[]⟩
noncomputable def k584 (P : Params) : Obj := ⟨.type "code", none, .fields [.str "list_of" 1162, .str "World.list_of" 1163, .str "/claim/cut.py" 1164, .int 379 0, .int 2 0, .int 0 0, .int 0 0, .int 3 0, .ref 579, .bool true, .int 181 0, .ref 580, .none, .ref 581, .ref 582, .ref 583, .int 1167 0, .int 379 0, .str "/claim/cut.py" 1168].toArray, #[]⟩
noncomputable def k585 (P : Params) : Obj := ⟨.type "function", none, .func (fnOf "list_of" "World.list_of" (fargs (clsS 45 16)) (fbody (clsS 45 16)) (fscope (clsS 45 16)) (.none) .none (.none) (.str "gemrows.world" 861) none (.ref 584) .none), #[]⟩
noncomputable def k591 (P : Params) : Obj := ⟨.type "code", none, .fields [.str "table_of" 1170, .str "World.table_of" 1171, .str "/claim/cut.py" 1172, .int 382 0, .int 2 0, .int 0 0, .int 0 0, .int 3 0, .ref 586, .bool true, .int 181 0, .ref 587, .none, .ref 588, .ref 589, .ref 590, .int 1178 0, .int 382 0, .str "/claim/cut.py" 1179].toArray, #[]⟩
noncomputable def k592 (P : Params) : Obj := ⟨.type "function", none, .func (fnOf "table_of" "World.table_of" (fargs (clsS 45 17)) (fbody (clsS 45 17)) (fscope (clsS 45 17)) (.none) .none (.none) (.str "gemrows.world" 861) none (.ref 591) .none), #[]⟩
noncomputable def k598 (P : Params) : Obj := ⟨.type "code", none, .fields [.str "key_of" 1181, .str "World.key_of" 1182, .str "/claim/cut.py" 1183, .int 388 0, .int 2 0, .int 0 0, .int 0 0, .int 3 0, .ref 593, .bool true, .int 181 0, .ref 594, .none, .ref 595, .ref 596, .ref 597, .int 1187 0, .int 388 0, .str "/claim/cut.py" 1188].toArray, #[]⟩
noncomputable def k599 (P : Params) : Obj := ⟨.type "function", none, .func (fnOf "key_of" "World.key_of" (fargs (clsS 45 18)) (fbody (clsS 45 18)) (fscope (clsS 45 18)) (.none) .none (.none) (.str "gemrows.world" 861) none (.ref 598) .none), #[]⟩
noncomputable def k605 (P : Params) : Obj := ⟨.type "code", none, .fields [.str "range_of" 1190, .str "World.range_of" 1191, .str "/claim/cut.py" 1192, .int 395 0, .int 4 0, .int 0 0, .int 0 0, .int 3 0, .ref 600, .bool true, .int 181 0, .ref 601, .none, .ref 602, .ref 603, .ref 604, .int 1199 0, .int 395 0, .str "/claim/cut.py" 1200].toArray, #[]⟩
noncomputable def k606 (P : Params) : Obj := ⟨.type "function", none, .func (fnOf "range_of" "World.range_of" (fargs (clsS 45 19)) (fbody (clsS 45 19)) (fscope (clsS 45 19)) (.none) .none (.none) (.str "gemrows.world" 861) none (.ref 605) .none), #[]⟩
noncomputable def k713 (P : Params) : Obj := kdict P (.type "dict") none (([("__module__", 1020, .str "gemrows.world" 861), ("__firstlineno__", 1024, .int 269 1023), ("__init__", 1037, .ref 474), ("tick", 1044, .ref 481), ("write", 1052, .ref 488), ("number", 1059, .ref 495), ("next_ident", 1066, .ref 502), ("ident", 1075, .ref 509), ("builtin", 1084, .ref 516), ("make_builtin", 1090, .ref 521), ("give_own", 1098, .ref 528), ("new_module", 1113, .ref 536), ("class_of", 1121, .ref 543), ("own_of", 1129, .ref 550), ("own_behind", 1137, .ref 557), ("root_of", 1145, .ref 564), ("real_class", 1153, .ref 571), ("text", 1161, .ref 578), ("list_of", 1169, .ref 585), ("table_of", 1180, .ref 592)] : List DRow) ++ ([("key_of", 1189, .ref 599), ("range_of", 1201, .ref 606), ("proc", 1218, .ref 613), ("thing", 1228, .ref 620), ("is_error_class", 1236, .ref 627), ("spread", 1244, .ref 634), ("error", 1253, .ref 641), ("fail", 1262, .ref 648), ("need_thawed", 1270, .ref 655), ("set_field", 1280, .ref 662), ("describe", 1288, .ref 669), ("own_constant", 1297, .ref 676), ("find_constant", 1306, .ref 683), ("constant", 1315, .ref 690), ("find_in", 1324, .ref 697), ("constant_in", 1333, .ref 704), ("set_constant", 1343, .ref 711), ("__static_attributes__", 1359, .ref 712), ("__dict__", 1361, .ref 715), ("__weakref__", 1363, .ref 716)] : List DRow) ++ ([("__doc__", 1364, .none)] : List DRow)) 4 #[]
noncomputable def k714 (P : Params) : Obj := ⟨.type "type", none, .cls ({ name := Str.ofString "World", bases := [Value.type "object"], mro := [Value.ref 714, Value.type "object"], ns := 713, qualname := Str.ofString "World" }), #[none, none, some (.str "World" 1013), some (.str "World" 1021), some (.builtin "object.__new__"), some (.bool true)]⟩
noncomputable def k724 (P : Params) : Obj := ⟨.type "code", none, .fields [.str "_law_box" 1369, .str "_law_box" 1370, .str "/claim/cut.py" 1371, .int 477 0, .int 1 0, .int 0 0, .int 0 0, .int 3 0, .ref 719, .bool true, .int 181 0, .ref 720, .none, .ref 721, .ref 722, .ref 723, .int 1376 0, .int 477 0, .str "/claim/cut.py" 1377].toArray, #[]⟩
noncomputable def k725 (P : Params) : Obj := ⟨.type "function", none, .func (fnOf "_law_box" "_law_box" (fargs (topS 47)) (fbody (topS 47)) (fscope (topS 47)) (.none) .none (.none) (.str "law_pq0507_01" 1367) none (.ref 724) .none), #[]⟩
noncomputable def k731 (P : Params) : Obj := ⟨.type "code", none, .fields [.str "_law_take" 1379, .str "_law_take" 1380, .str "/claim/cut.py" 1381, .int 484 0, .int 2 0, .int 0 0, .int 0 0, .int 3 0, .ref 726, .bool true, .int 181 0, .ref 727, .none, .ref 728, .ref 729, .ref 730, .int 1386 0, .int 484 0, .str "/claim/cut.py" 1387].toArray, #[]⟩
noncomputable def k732 (P : Params) : Obj := ⟨.type "function", none, .func (fnOf "_law_take" "_law_take" (fargs (topS 48)) (fbody (topS 48)) (fscope (topS 48)) (.none) .none (.none) (.str "law_pq0507_01" 1367) none (.ref 731) .none), #[]⟩
noncomputable def k738 (P : Params) : Obj := ⟨.type "code", none, .fields [.str "_law_quoted" 1389, .str "_law_quoted" 1390, .str "/claim/cut.py" 1391, .int 492 0, .int 1 0, .int 0 0, .int 0 0, .int 3 0, .ref 733, .bool true, .int 181 0, .ref 734, .none, .ref 735, .ref 736, .ref 737, .int 1397 0, .int 492 0, .str "/claim/cut.py" 1398].toArray, #[]⟩
noncomputable def k739 (P : Params) : Obj := ⟨.type "function", none, .func (fnOf "_law_quoted" "_law_quoted" (fargs (topS 49)) (fbody (topS 49)) (fscope (topS 49)) (.none) .none (.none) (.str "law_pq0507_01" 1367) none (.ref 738) .none), #[]⟩
noncomputable def k745 (P : Params) : Obj := ⟨.type "code", none, .fields [.str "_law_word" 1400, .str "_law_word" 1401, .str "/claim/cut.py" 1402, .int 498 0, .int 1 0, .int 0 0, .int 0 0, .int 3 0, .ref 740, .bool true, .int 181 0, .ref 741, .none, .ref 742, .ref 743, .ref 744, .int 1404 0, .int 498 0, .str "/claim/cut.py" 1405].toArray, #[]⟩
noncomputable def k746 (P : Params) : Obj := ⟨.type "function", none, .func (fnOf "_law_word" "_law_word" (fargs (topS 50)) (fbody (topS 50)) (fscope (topS 50)) (.none) .none (.none) (.str "law_pq0507_01" 1367) none (.ref 745) .none), #[]⟩
noncomputable def k752 (P : Params) : Obj := ⟨.type "code", none, .fields [.str "_law_key" 1407, .str "_law_key" 1408, .str "/claim/cut.py" 1409, .int 500 0, .int 2 0, .int 0 0, .int 0 0, .int 3 0, .ref 747, .bool true, .int 181 0, .ref 748, .none, .ref 749, .ref 750, .ref 751, .int 1416 0, .int 500 0, .str "/claim/cut.py" 1417].toArray, #[]⟩
noncomputable def k753 (P : Params) : Obj := ⟨.type "function", none, .func (fnOf "_law_key" "_law_key" (fargs (topS 51)) (fbody (topS 51)) (fscope (topS 51)) (.none) .none (.none) (.str "law_pq0507_01" 1367) none (.ref 752) .none), #[]⟩
noncomputable def k757 (P : Params) : Obj := ⟨.type "code", none, .fields [.str "_law_value" 1419, .str "_law_value" 1420, .str "/claim/cut.py" 1421, .int 510 0, .int 3 0, .int 0 0, .int 0 0, .int 3 0, .ref 754, .bool true, .int 181 0, .ref 755, .none, .none, .none, .ref 756, .int 1422 0, .int 510 0, .str "/claim/cut.py" 1423].toArray, #[]⟩
noncomputable def k758 (P : Params) : Obj := ⟨.type "function", none, .func (fnOf "_law_value" "_law_value" (fargs (topS 52)) (fbody (topS 52)) (fscope (topS 52)) (.none) .none (.none) (.str "law_pq0507_01" 1367) none (.ref 757) .none), #[]⟩
noncomputable def k764 (P : Params) : Obj := ⟨.type "code", none, .fields [.str "_law_error" 1425, .str "_law_error" 1426, .str "/claim/cut.py" 1427, .int 547 0, .int 2 0, .int 0 0, .int 0 0, .int 3 0, .ref 759, .bool true, .int 181 0, .ref 760, .none, .ref 761, .ref 762, .ref 763, .int 1436 0, .int 547 0, .str "/claim/cut.py" 1437].toArray, #[]⟩
noncomputable def k765 (P : Params) : Obj := ⟨.type "function", none, .func (fnOf "_law_error" "_law_error" (fargs (topS 53)) (fbody (topS 53)) (fscope (topS 53)) (.none) .none (.none) (.str "law_pq0507_01" 1367) none (.ref 764) .none), #[]⟩
noncomputable def k769 (P : Params) : Obj := ⟨.type "code", none, .fields [.str "law" 1439, .str "law" 1440, .str "/claim/cut.py" 1441, .int 565 0, .int 1 0, .int 0 0, .int 0 0, .int 3 0, .ref 766, .bool true, .int 181 0, .ref 767, .none, .none, .none, .ref 768, .int 1442 0, .int 565 0, .str "/claim/cut.py" 1443].toArray, #[]⟩
noncomputable def k770 (P : Params) : Obj := ⟨.type "function", none, .func (fnOf "law" "law" (fargs (topS 54)) (fbody (topS 54)) (fscope (topS 54)) (.none) .none (.none) (.str "law_pq0507_01" 1367) none (.ref 769) .none), #[]⟩
noncomputable def K (P : Params) : Frag := [(2, k2 P), (3, k3 P), (22, k22 P), (23, k23 P), (36, k36 P), (37, k37 P), (39, k39 P), (40, k40 P), (52, k52 P), (58, k58 P), (59, k59 P), (61, k61 P), (62, k62 P), (72, k72 P), (78, k78 P), (79, k79 P), (81, k81 P), (82, k82 P), (97, k97 P), (98, k98 P), (104, k104 P), (105, k105 P), (116, k116 P), (117, k117 P), (119, k119 P), (120, k120 P), (130, k130 P), (136, k136 P), (137, k137 P), (139, k139 P), (140, k140 P), (160, k160 P), (161, k161 P), (171, k171 P), (177, k177 P), (178, k178 P), (180, k180 P), (181, k181 P), (211, k211 P), (217, k217 P), (218, k218 P), (227, k227 P), (228, k228 P), (236, k236 P), (237, k237 P), (243, k243 P), (244, k244 P), (245, k245 P), (249, k249 P), (250, k250 P), (256, k256 P), (257, k257 P), (263, k263 P), (264, k264 P), (270, k270 P), (271, k271 P), (277, k277 P), (278, k278 P), (284, k284 P), (285, k285 P), (289, k289 P), (290, k290 P), (296, k296 P), (297, k297 P), (303, k303 P), (304, k304 P), (310, k310 P), (311, k311 P), (315, k315 P), (316, k316 P), (322, k322 P), (323, k323 P), (324, k324 P), (330, k330 P), (331, k331 P), (344, k344 P), (345, k345 P), (351, k351 P), (352, k352 P), (354, k354 P), (355, k355 P), (365, k365 P), (366, k366 P), (372, k372 P), (373, k373 P), (447, k447 P), (448, k448 P), (451, k451 P), (452, k452 P), (453, k453 P), (454, k454 P), (455, k455 P), (456, k456 P), (457, k457 P), (458, k458 P), (459, k459 P), (467, k467 P), (473, k473 P), (474, k474 P), (480, k480 P), (481, k481 P), (487, k487 P), (488, k488 P), (494, k494 P), (495, k495 P), (515, k515 P), (516, k516 P), (520, k520 P), (521, k521 P), (527, k527 P), (528, k528 P), (529, k529 P), (535, k535 P), (536, k536 P), (542, k542 P), (543, k543 P), (577, k577 P), (578, k578 P), (584, k584 P), (585, k585 P), (591, k591 P), (592, k592 P), (598, k598 P), (599, k599 P), (605, k605 P), (606, k606 P), (713, k713 P), (714, k714 P), (724, k724 P), (725, k725 P), (731, k731 P), (732, k732 P), (738, k738 P), (739, k739 P), (745, k745 P), (746, k746 P), (752, k752 P), (753, k753 P), (757, k757 P), (758, k758 P), (764, k764 P), (765, k765 P), (769, k769 P), (770, k770 P)]
noncomputable def kas : List Addr := [2, 3, 22, 23, 36, 37, 39, 40, 52, 58, 59, 61, 62, 72, 78, 79, 81, 82, 97, 98, 104, 105, 116, 117, 119, 120, 130, 136, 137, 139, 140, 160, 161, 171, 177, 178, 180, 181, 211, 217, 218, 227, 228, 236, 237, 243, 244, 245, 249, 250, 256, 257, 263, 264, 270, 271, 277, 278, 284, 285, 289, 290, 296, 297, 303, 304, 310, 311, 315, 316, 322, 323, 324, 330, 331, 344, 345, 351, 352, 354, 355, 365, 366, 372, 373, 447, 448, 451, 452, 453, 454, 455, 456, 457, 458, 459, 467, 473, 474, 480, 481, 487, 488, 494, 495, 515, 516, 520, 521, 527, 528, 529, 535, 536, 542, 543, 577, 578, 584, 585, 591, 592, 598, 599, 605, 606, 713, 714, 724, 725, 731, 732, 738, 739, 745, 746, 752, 753, 757, 758, 764, 765, 769, 770]

/-- a function of the program's text -/
def fnG (S : Stmt) (name qual : Str) (gl : Addr) (dV doc pm cd : Value) (bl : Addr) : FuncData := { name, qualname := qual, params := fargs S, body := .stmts (fbody S), scope := fscope S, globals := gl, closure := [], defaults := dV, kwdefaults := .none, doc, pyModule := pm, annotations := none, code := cd, closureTuple := .none, builtins := bl }
def gO (t : BT) (i : Nat) : Obj := (t.get i).getD default
def tree20 (P : Params) : BT := .node (boot_o_0 P) (.node (boot_o_1 P) (.node (kdict P (.type "dict") none (([("__name__", 165, .str "gemrows.things" 194), ("__doc__", 166, .none), ("__package__", 167, .none), ("__loader__", 168, .builtin "__main__.__loader__#opaque"), ("__spec__", 169, .none), ("__annotations__", 170, .ref 6), ("__builtins__", 171, .ref 4), ("__file__", 173, .str "/claim/cut.py" 172), ("__cached__", 174, .none), ("_wall", 193, .ref 21), ("SIMPLE_ESCAPES", 229, .ref 22), ("OPERATORS", 257, .ref 23), ("DEEPEST_KEY", 259, .int 12 258), ("Thing", 294, .ref 40), ("Text", 322, .ref 62), ("ListThing", 349, .ref 82), ("TableThing", 401, .ref 120), ("RangeThing", 432, .ref 140), ("ProcThing", 475, .ref 161), ("ErrorThing", 503, .ref 181)] : List DRow) ++ ([("FiberThing", 533, .ref 201), ("ModuleThing", 580, .ref 228), ("sort_of", 587, .ref 237), ("same", 596, .ref 244), ("code_of", 602, .ref 250), ("is_word", 610, .ref 257), ("is_label", 617, .ref 264), ("is_plain_symbol", 624, .ref 271)] : List DRow)) 28 #[]) (.node (boot_o_7 P) (.node (⟨.type "tuple", none, .seq [].toArray 0, #[]⟩) (.node (⟨.type "tuple", none, .seq [].toArray 0, #[]⟩) (.node (⟨.type "super", none, .fields [.ref 62, .ref 62, .ref 62].toArray, #[]⟩) (.node (⟨.none, none, .fields [.int 49 0, .int 4 0, .ref 136].toArray, #[]⟩) (.node (⟨.none, none, .func (fnG (topS 17) "is_word" "is_word" 0 (.none) (.none) (.none) (.none) 0), #[]⟩) (.nil) (.nil)) (.nil)) (.node (⟨.type "tuple", none, .seq [.none].toArray 0, #[]⟩) (.nil) (.nil))) (.node (⟨.type "tuple", none, .seq [].toArray 0, #[]⟩) (.node (⟨.type "tuple", none, .seq [.str "body" 463, .str "definer" 464, .str "env" 465, .str "home" 466, .str "is_lambda" 467, .str "nesting" 468, .str "params" 469, .str "self_value" 470, .str "site" 471].toArray 0, #[]⟩) (.nil) (.nil)) (.node (⟨.none, none, .func (fnG (clsS 13 1) "is_own" "ModuleThing.is_own" 0 (.none) (.none) (.none) (.none) 0), #[]⟩) (.nil) (.nil)))) (.node (kdict P (.type "dict") none (([("__module__", 302, .str "gemrows.things" 194), ("__qualname__", 304, .str "Text" 303), ("__firstlineno__", 306, .int 17 305), ("__init__", 317, .ref 59), ("__static_attributes__", 319, .ref 60)] : List DRow)) 5 #[]) (.node (⟨.type "function", none, .func (fnG (clsS 7 0) "__init__" "ListThing.__init__" 3 (.ref 72) (.none) (.str "gemrows.things" 194) (.ref 78) 0), #[]⟩) (.node (⟨.type "tuple", none, .seq [.ref 40].toArray 0, #[]⟩) (.node (⟨.type "function", none, .func (fnG (topS 19) "is_plain_symbol" "is_plain_symbol" 3 (.none) (.none) (.str "gemrows.things" 194) (.ref 270) 0), #[]⟩) (.nil) (.nil)) (.nil)) (.node (⟨.type "tuple", none, .seq [].toArray 0, #[]⟩) (.nil) (.nil))) (.node (⟨.type "code", none, .fields [.str "row" 382, .str "TableThing.row" 383, .str "/claim/cut.py" 384, .int 42 0, .int 2 0, .int 0 0, .int 0 0, .int 3 0, .ref 106, .bool true, .int 181 0, .ref 107, .none, .ref 108, .ref 109, .ref 110, .int 387 0, .int 42 0, .str "/claim/cut.py" 388].toArray, #[]⟩) (.node (⟨.type "tuple", none, .seq [].toArray 0, #[]⟩) (.nil) (.nil)) (.node (⟨.none, none, .fields [].toArray, #[]⟩) (.nil) (.nil))))) (.node (⟨.type "tuple", none, .seq [.str "+" 230, .str "-" 231, .str "*" 232, .str "/" 233, .str "%" 234, .str "**" 235, .str "==" 236, .str "!=" 237, .str "<" 238, .str ">" 239, .str "<=" 240, .str ">=" 241, .str "<=>" 242, .str "===" 243, .str "[]" 244, .str "[]=" 245, .str "<<" 246, .str ">>" 247, .str "!" 248, .str "~" 249, .str "+@" 250, .str "-@" 251, .str "&" 252, .str "|" 253, .str "^" 254, .str "=~" 255, .str "!~" 256].toArray 0, #[]⟩) (.node (kdict P (.type "dict") none (([("__module__", 267, .str "gemrows.things" 194), ("__firstlineno__", 271, .int 8 270), ("__init__", 280, .ref 37), ("__static_attributes__", 287, .ref 38), ("__dict__", 289, .ref 41), ("__weakref__", 291, .ref 42), ("__doc__", 292, .none)] : List DRow)) 4 #[]) (.node (⟨.type "frame", none, .plain, [some (.ref 70), some (.ref 3), some (.ref 67), none, some (.str "gemrows.things" 194), none, some (.ref 0)].toArray⟩) (.node (⟨.none, none, .func (fnG (clsS 9 0) "__init__" "RangeThing.__init__" 0 (.none) (.none) (.none) (.none) 0), #[]⟩) (.node (⟨.type "code", none, .fields [.str "is_label" 611, .str "is_label" 612, .str "/claim/cut.py" 613, .int 130 0, .int 1 0, .int 0 0, .int 0 0, .int 3 0, .ref 258, .bool true, .int 181 0, .ref 259, .none, .ref 260, .ref 261, .ref 262, .int 615 0, .int 130 0, .str "/claim/cut.py" 616].toArray, #[]⟩) (.nil) (.nil)) (.nil)) (.node (⟨.type "tuple", none, .seq [.str "back" 526, .str "proc" 527, .str "rows" 528, .str "state" 529].toArray 0, #[]⟩) (.nil) (.nil))) (.node (⟨.none, none, .func (fnG (clsS 8 1) "put" "TableThing.put" 0 (.none) (.none) (.none) (.none) 0), #[]⟩) (.node (⟨.type "tuple", none, .seq [].toArray 0, #[]⟩) (.nil) (.nil)) (.node (⟨.type "tuple", none, .seq [].toArray 0, #[]⟩) (.nil) (.nil)))) (.node (⟨.type "tuple", none, .seq [.str "self" 311, .str "number" 312, .str "owner" 313, .str "text" 314].toArray 0, #[]⟩) (.node (kdict P (.type "dict") none (([("__module__", 357, .str "gemrows.things" 194), ("__qualname__", 359, .str "TableThing" 358), ("__firstlineno__", 361, .int 27 360), ("__init__", 370, .ref 98), ("put", 381, .ref 105), ("row", 389, .ref 112), ("pairs", 395, .ref 117), ("__static_attributes__", 398, .ref 118)] : List DRow)) 8 #[]) (.node (⟨.type "tuple", none, .seq [.none, .none, .none, .none, .ref 150, .none, .none, .bool false, .none].toArray 0, #[]⟩) (.nil) (.nil)) (.node (⟨.type "tuple", none, .seq [].toArray 0, #[]⟩) (.nil) (.nil))) (.node (kdict P (.type "dict") none (([("__module__", 357, .str "gemrows.things" 194), ("__firstlineno__", 361, .int 27 360), ("__init__", 370, .ref 98), ("put", 381, .ref 105), ("row", 389, .ref 112), ("pairs", 395, .ref 117), ("__static_attributes__", 398, .ref 118), ("__doc__", 399, .none)] : List DRow)) 2 #[]) (.node (⟨.type "builtin_function_or_method", none, .fields [.builtin "object.__init_subclass__", .ref 181].toArray, #[]⟩) (.nil) (.nil)) (.node (⟨.none, none, .fields [].toArray, #[]⟩) (.nil) (.nil)))))) (.node (o11) (.node (⟨.none, none, .func (fnG (topS 0) "_wall" "_wall" 0 (.none) (.none) (.none) (.none) 0), #[]⟩) (.node (⟨.none, none, .func (fnG (clsS 5 0) "__init__" "Thing.__init__" 0 (.none) (.none) (.none) (.none) 0), #[]⟩) (.node (kdict P (.type "dict") none (([("__module__", 330, .str "gemrows.things" 194), ("__qualname__", 332, .str "ListThing" 331), ("__firstlineno__", 334, .int 22 333), ("__init__", 344, .ref 79), ("__static_attributes__", 346, .ref 80)] : List DRow)) 5 #[]) (.node (⟨.type "tuple", none, .seq [].toArray 0, #[]⟩) (.node (⟨.none, none, .fields [].toArray, #[]⟩) (.nil) (.nil)) (.nil)) (.node (⟨.type "tuple", none, .seq [].toArray 0, #[]⟩) (.nil) (.nil))) (.node (⟨.type "tuple", none, .seq [].toArray 0, #[]⟩) (.node (⟨.type "builtin_function_or_method", none, .fields [.builtin "object.__init_subclass__", .ref 161].toArray, #[]⟩) (.nil) (.nil)) (.node (kdict P (.type "dict") none (([("__module__", 541, .str "gemrows.things" 194), ("__firstlineno__", 545, .int 81 544), ("__init__", 558, .ref 218), ("is_own", 565, .ref 225), ("__static_attributes__", 577, .ref 226), ("__doc__", 578, .none)] : List DRow)) 2 #[]) (.nil) (.nil)))) (.node (⟨.type "frame", none, .plain, [some (.ref 50), some (.ref 3), some (.ref 47), none, some (.str "gemrows.things" 194), none, some (.ref 0)].toArray⟩) (.node (⟨.type "super", none, .fields [.ref 82, .ref 82, .ref 82].toArray, #[]⟩) (.node (⟨.none, none, .fields [.int 56 0, .int 4 0, .ref 157].toArray, #[]⟩) (.nil) (.nil)) (.node (⟨.type "tuple", none, .seq [.none, .bool false, .none, .none].toArray 0, #[]⟩) (.nil) (.nil))) (.node (⟨.none, none, .func (fnG (clsS 8 3) "pairs" "TableThing.pairs" 0 (.none) (.none) (.none) (.none) 0), #[]⟩) (.node (⟨.type "tuple", none, .seq [.str "cause" 498, .str "message" 499].toArray 0, #[]⟩) (.nil) (.nil)) (.node (⟨.type "code", none, .fields [.str "same" 588, .str "same" 589, .str "/claim/cut.py" 590, .int 107 0, .int 2 0, .int 0 0, .int 0 0, .int 3 0, .ref 238, .bool true, .int 181 0, .ref 239, .none, .ref 240, .ref 241, .ref 242, .int 594 0, .int 107 0, .str "/claim/cut.py" 595].toArray, #[]⟩) (.nil) (.nil))))) (.node (⟨.type "tuple", none, .seq [].toArray 0, #[]⟩) (.node (⟨.type "super", none, .fields [.ref 40, .ref 40, .ref 40].toArray, #[]⟩) (.node (⟨.type "tuple", none, .seq [.str "self" 338, .str "number" 339, .str "owner" 340, .str "items" 341].toArray 0, #[]⟩) (.node (kdict P (.type "dict") none (([("__module__", 409, .str "gemrows.things" 194), ("__firstlineno__", 413, .int 47 412), ("__init__", 425, .ref 137), ("__static_attributes__", 429, .ref 138), ("__doc__", 430, .none)] : List DRow)) 2 #[]) (.node (⟨.type "tuple", none, .seq [.str "name" 621].toArray 0, #[]⟩) (.nil) (.nil)) (.nil)) (.node (⟨.type "builtin_function_or_method", none, .fields [.builtin "object.__init_subclass__", .ref 201].toArray, #[]⟩) (.nil) (.nil))) (.node (⟨.none, none, .fields [].toArray, #[]⟩) (.node (⟨.type "tuple", none, .seq [.none].toArray 0, #[]⟩) (.nil) (.nil)) (.node (⟨.none, none, .func (fnG (topS 14) "sort_of" "sort_of" 0 (.none) (.none) (.none) (.none) 0), #[]⟩) (.nil) (.nil)))) (.node (⟨.type "function", none, .func (fnG (clsS 6 0) "__init__" "Text.__init__" 3 (.ref 52) (.none) (.str "gemrows.things" 194) (.ref 58) 0), #[]⟩) (.node (⟨.type "frame", none, .plain, [some (.ref 90), some (.ref 3), some (.ref 87), none, some (.str "gemrows.things" 194), none, some (.ref 0)].toArray⟩) (.node (⟨.type "tuple", none, .seq [].toArray 0, #[]⟩) (.nil) (.nil)) (.node (⟨.type "tuple", none, .seq [].toArray 0, #[]⟩) (.nil) (.nil))) (.node (⟨.type "tuple", none, .seq [.ref 40].toArray 0, #[]⟩) (.node (⟨.type "tuple", none, .seq [].toArray 0, #[]⟩) (.nil) (.nil)) (.node (⟨.type "tuple", none, .seq [].toArray 0, #[]⟩) (.nil) (.nil))))))) (.node (boot_o_5 P) (.node (boot_o_9 P) (.node (⟨.type "tuple", none, .seq [.str "k" 190].toArray 0, #[]⟩) (.node (⟨.type "tuple", none, .seq [.str "self" 275, .str "number" 276, .str "owner" 277].toArray 0, #[]⟩) (.node (⟨.type "tuple", none, .seq [.ref 40].toArray 0, #[]⟩) (.node (⟨.type "frame", none, .plain, [some (.ref 128), some (.ref 3), some (.ref 125), none, some (.str "gemrows.things" 194), none, some (.ref 0)].toArray⟩) (.node (⟨.type "function", none, .func (fnG (topS 17) "is_word" "is_word" 3 (.none) (.none) (.str "gemrows.things" 194) (.ref 256) 0), #[]⟩) (.nil) (.nil)) (.nil)) (.node (⟨.none, none, .fields [].toArray, #[]⟩) (.nil) (.nil))) (.node (⟨.type "code", none, .fields [.str "__init__" 362, .str "TableThing.__init__" 363, .str "/claim/cut.py" 364, .int 29 0, .int 3 0, .int 0 0, .int 0 0, .int 3 0, .ref 92, .bool true, .int 181 0, .ref 93, .none, .ref 94, .ref 95, .ref 96, .int 368 0, .int 29 0, .str "/claim/cut.py" 369].toArray, #[]⟩) (.node (⟨.type "type", none, .cls ({ name := Str.ofString "ProcThing", bases := [Value.ref 40], mro := [Value.ref 161, Value.ref 40, Value.type "object"], ns := 160, qualname := Str.ofString "ProcThing" }), [some (.ref 143), none, some (.str "ProcThing" 433), some (.str "ProcThing" 441), some (.builtin "object.__new__"), some (.bool true)].toArray⟩) (.nil) (.nil)) (.node (⟨.type "function", none, .func (fnG (clsS 13 1) "is_own" "ModuleThing.is_own" 3 (.none) (.none) (.str "gemrows.things" 194) (.ref 224) 0), #[]⟩) (.nil) (.nil)))) (.node (⟨.none, none, .fields [.int 19 0, .int 4 0, .ref 58].toArray, #[]⟩) (.node (kdict P (.type "dict") none (([("__module__", 330, .str "gemrows.things" 194), ("__firstlineno__", 334, .int 22 333), ("__init__", 344, .ref 79), ("__static_attributes__", 346, .ref 80), ("__doc__", 347, .none)] : List DRow)) 2 #[]) (.node (kdict P (.type "dict") none (([("__module__", 440, .str "gemrows.things" 194), ("__qualname__", 442, .str "ProcThing" 441), ("__firstlineno__", 444, .int 54 443), ("__init__", 462, .ref 158), ("__static_attributes__", 472, .ref 159)] : List DRow)) 5 #[]) (.nil) (.nil)) (.node (⟨.type "code", none, .fields [.str "ModuleThing" 536, .str "ModuleThing" 537, .str "/claim/cut.py" 538, .int 81 0, .int 0 0, .int 0 0, .int 0 0, .int 0 0, .ref 207, .bool false, .int 181 0, .ref 208, .none, .none, .none, .none, .int 539 0, .int 81 0, .str "/claim/cut.py" 540].toArray, #[]⟩) (.nil) (.nil))) (.node (⟨.type "tuple", none, .seq [].toArray 0, #[]⟩) (.node (⟨.type "code", none, .fields [.str "__init__" 488, .str "ErrorThing.__init__" 489, .str "/claim/cut.py" 490, .int 69 0, .int 4 0, .int 0 0, .int 0 0, .int 3 0, .ref 172, .bool true, .int 181 0, .ref 173, .none, .ref 174, .ref 175, .ref 176, .int 495 0, .int 69 0, .str "/claim/cut.py" 496].toArray, #[]⟩) (.nil) (.nil)) (.node (⟨.type "tuple", none, .seq [].toArray 0, #[]⟩) (.nil) (.nil))))) (.node (⟨.type "builtin_function_or_method", none, .fields [.builtin "type.__prepare__", .type "type"].toArray, #[]⟩) (.node (⟨.type "getset_descriptor", none, .fields [.str "__dict__" 288, .ref 40, .builtin "function.__dict__", .builtin "function.__dict__#set"].toArray, #[]⟩) (.node (⟨.type "tuple", none, .seq [].toArray 0, #[]⟩) (.node (⟨.type "function", none, .func (fnG (clsS 9 0) "__init__" "RangeThing.__init__" 3 (.ref 130) (.none) (.str "gemrows.things" 194) (.ref 136) 0), #[]⟩) (.node (⟨.type "tuple", none, .seq [].toArray 0, #[]⟩) (.nil) (.nil)) (.nil)) (.node (⟨.type "type", none, .cls ({ name := Str.ofString "FiberThing", bases := [Value.ref 40], mro := [Value.ref 201, Value.ref 40, Value.type "object"], ns := 200, qualname := Str.ofString "FiberThing" }), [some (.ref 184), none, some (.str "FiberThing" 504), some (.str "FiberThing" 512), some (.builtin "object.__new__"), some (.bool true)].toArray⟩) (.nil) (.nil))) (.node (⟨.type "function", none, .func (fnG (clsS 8 1) "put" "TableThing.put" 3 (.none) (.none) (.str "gemrows.things" 194) (.ref 104) 0), #[]⟩) (.node (⟨.type "code", none, .fields [.str "ErrorThing" 478, .str "ErrorThing" 479, .str "/claim/cut.py" 480, .int 67 0, .int 0 0, .int 0 0, .int 0 0, .int 0 0, .ref 167, .bool false, .int 181 0, .ref 168, .none, .none, .none, .none, .int 481 0, .int 67 0, .str "/claim/cut.py" 482].toArray, #[]⟩) (.nil) (.nil)) (.node (⟨.type "tuple", none, .seq [.str "value" 584].toArray 0, #[]⟩) (.nil) (.nil)))) (.node (⟨.none, none, .func (fnG (clsS 6 0) "__init__" "Text.__init__" 0 (.none) (.none) (.none) (.none) 0), #[]⟩) (.node (⟨.none, none, .fields [.int 29 0, .int 4 0, .ref 97, .int 34 0, .int 4 0, .ref 104, .int 42 0, .int 4 0, .ref 111, .int 45 0, .int 4 0, .ref 116].toArray, #[]⟩) (.node (⟨.none, none, .fields [].toArray, #[]⟩) (.nil) (.nil)) (.node (⟨.type "code", none, .fields [.str "__init__" 546, .str "ModuleThing.__init__" 547, .str "/claim/cut.py" 548, .int 83 0, .int 7 0, .int 0 0, .int 0 0, .int 3 0, .ref 212, .bool true, .int 181 0, .ref 213, .none, .ref 214, .ref 215, .ref 216, .int 556 0, .int 83 0, .str "/claim/cut.py" 557].toArray, #[]⟩) (.nil) (.nil))) (.node (⟨.type "super", none, .fields [.ref 120, .ref 120, .ref 120].toArray, #[]⟩) (.node (⟨.type "builtin_function_or_method", none, .fields [.builtin "type.__prepare__", .type "type"].toArray, #[]⟩) (.nil) (.nil)) (.node (⟨.type "code", none, .fields [.str "code_of" 597, .str "code_of" 598, .str "/claim/cut.py" 599, .int 112 0, .int 2 0, .int 0 0, .int 0 0, .int 3 0, .ref 246, .bool true, .int 181 0, .ref 247, .none, .none, .none, .ref 248, .int 600 0, .int 112 0, .str "/claim/cut.py" 601].toArray, #[]⟩) (.nil) (.nil)))))) (.node (o13) (.node (⟨.type "function", none, .func (fnG (topS 0) "_wall" "_wall" 3 (.none) (.none) (.str "__main__" 164) (.ref 20) 0), #[]⟩) (.node (⟨.type "function", none, .func (fnG (clsS 5 0) "__init__" "Thing.__init__" 3 (.none) (.none) (.str "gemrows.things" 194) (.ref 36) 0), #[]⟩) (.node (⟨.none, none, .fields [.int 24 0, .int 4 0, .ref 78].toArray, #[]⟩) (.node (⟨.type "tuple", none, .seq [.str "self" 417, .str "number" 418, .str "owner" 419, .str "first" 420, .str "last" 421, .str "is_open" 422].toArray 0, #[]⟩) (.node (⟨.type "tuple", none, .seq [].toArray 0, #[]⟩) (.nil) (.nil)) (.nil)) (.node (⟨.type "code", none, .fields [.str "__init__" 516, .str "FiberThing.__init__" 517, .str "/claim/cut.py" 518, .int 75 0, .int 4 0, .int 0 0, .int 0 0, .int 3 0, .ref 192, .bool true, .int 181 0, .ref 193, .none, .ref 194, .ref 195, .ref 196, .int 523 0, .int 75 0, .str "/claim/cut.py" 524].toArray, #[]⟩) (.nil) (.nil))) (.node (⟨.type "tuple", none, .seq [.str "self" 374, .str "key" 375, .str "value" 376, .str "code" 377, .str "row" 378].toArray 0, #[]⟩) (.node (⟨.type "builtin_function_or_method", none, .fields [.builtin "type.__prepare__", .type "type"].toArray, #[]⟩) (.nil) (.nil)) (.node (⟨.type "super", none, .fields [.ref 228, .ref 228, .ref 228].toArray, #[]⟩) (.nil) (.nil)))) (.node (⟨.type "tuple", none, .seq [].toArray 0, #[]⟩) (.node (⟨.type "tuple", none, .seq [.ref 40].toArray 0, #[]⟩) (.node (⟨.type "frame", none, .plain, [some (.ref 148), some (.ref 3), some (.ref 145), none, some (.str "gemrows.things" 194), none, some (.ref 0)].toArray⟩) (.nil) (.nil)) (.node (⟨.none, none, .fields [].toArray, #[]⟩) (.nil) (.nil))) (.node (⟨.type "function", none, .func (fnG (clsS 8 3) "pairs" "TableThing.pairs" 3 (.none) (.none) (.str "gemrows.things" 194) (.ref 116) 0), #[]⟩) (.node (⟨.type "type", none, .cls ({ name := Str.ofString "ErrorThing", bases := [Value.ref 40], mro := [Value.ref 181, Value.ref 40, Value.type "object"], ns := 180, qualname := Str.ofString "ErrorThing" }), [some (.ref 164), none, some (.str "ErrorThing" 476), some (.str "ErrorThing" 484), some (.builtin "object.__new__"), some (.bool true)].toArray⟩) (.nil) (.nil)) (.node (⟨.type "tuple", none, .seq [.int 12 258].toArray 0, #[]⟩) (.nil) (.nil))))) (.node (⟨.type "code", none, .fields [.str "Thing" 262, .str "Thing" 263, .str "/claim/cut.py" 264, .int 8 0, .int 0 0, .int 0 0, .int 0 0, .int 0 0, .ref 27, .bool false, .int 181 0, .ref 28, .none, .none, .none, .none, .int 265 0, .int 8 0, .str "/claim/cut.py" 266].toArray, #[]⟩) (.node (⟨.type "tuple", none, .seq [.ref 40].toArray 0, #[]⟩) (.node (⟨.none, none, .func (fnG (clsS 7 0) "__init__" "ListThing.__init__" 0 (.none) (.none) (.none) (.none) 0), #[]⟩) (.node (⟨.type "super", none, .fields [.ref 140, .ref 140, .ref 140].toArray, #[]⟩) (.node (⟨.none, none, .func (fnG (topS 19) "is_plain_symbol" "is_plain_symbol" 0 (.none) (.none) (.none) (.none) 0), #[]⟩) (.nil) (.nil)) (.nil)) (.node (⟨.type "builtin_function_or_method", none, .fields [.builtin "type.__prepare__", .type "type"].toArray, #[]⟩) (.nil) (.nil))) (.node (⟨.type "tuple", none, .seq [].toArray 0, #[]⟩) (.node (⟨.none, none, .fields [].toArray, #[]⟩) (.nil) (.nil)) (.node (⟨.type "function", none, .func (fnG (topS 14) "sort_of" "sort_of" 3 (.none) (.none) (.str "gemrows.things" 194) (.ref 236) 0), #[]⟩) (.nil) (.nil)))) (.node (kdict P (.type "dict") none (([("__module__", 302, .str "gemrows.things" 194), ("__firstlineno__", 306, .int 17 305), ("__init__", 317, .ref 59), ("__static_attributes__", 319, .ref 60), ("__doc__", 320, .none)] : List DRow)) 2 #[]) (.node (⟨.none, none, .fields [].toArray, #[]⟩) (.node (⟨.type "code", none, .fields [.str "__init__" 445, .str "ProcThing.__init__" 446, .str "/claim/cut.py" 447, .int 56 0, .int 12 0, .int 0 0, .int 0 0, .int 3 0, .ref 152, .bool true, .int 181 0, .ref 153, .none, .ref 154, .ref 155, .ref 156, .int 460 0, .int 56 0, .str "/claim/cut.py" 461].toArray, #[]⟩) (.nil) (.nil)) (.node (⟨.type "tuple", none, .seq [.str "self" 562].toArray 0, #[]⟩) (.nil) (.nil))) (.node (kdict P (.type "dict") none (([("__module__", 409, .str "gemrows.things" 194), ("__qualname__", 411, .str "RangeThing" 410), ("__firstlineno__", 413, .int 47 412), ("__init__", 425, .ref 137), ("__static_attributes__", 429, .ref 138)] : List DRow)) 5 #[]) (.node (⟨.type "code", none, .fields [.str "FiberThing" 506, .str "FiberThing" 507, .str "/claim/cut.py" 508, .int 73 0, .int 0 0, .int 0 0, .int 0 0, .int 0 0, .ref 187, .bool false, .int 181 0, .ref 188, .none, .none, .none, .none, .int 509 0, .int 73 0, .str "/claim/cut.py" 510].toArray, #[]⟩) (.nil) (.nil)) (.node (⟨.type "tuple", none, .seq [.str "text" 606, .str "letter" 607].toArray 0, #[]⟩) (.nil) (.nil)))))))) (.node (boot_o_2 P) (.node (boot_o_4 P) (.node (boot_o_8 P) (.node (⟨.none, none, .fields [].toArray, #[]⟩) (.node (⟨.none, none, .fields [].toArray, #[]⟩) (.node (⟨.type "builtin_function_or_method", none, .fields [.builtin "object.__init_subclass__", .ref 62].toArray, #[]⟩) (.node (⟨.type "code", none, .fields [.str "RangeThing" 404, .str "RangeThing" 405, .str "/claim/cut.py" 406, .int 47 0, .int 0 0, .int 0 0, .int 0 0, .int 0 0, .ref 126, .bool false, .int 181 0, .ref 127, .none, .none, .none, .none, .int 407 0, .int 47 0, .str "/claim/cut.py" 408].toArray, #[]⟩) (.node (⟨.type "code", none, .fields [.str "is_word" 603, .str "is_word" 604, .str "/claim/cut.py" 605, .int 123 0, .int 1 0, .int 0 0, .int 0 0, .int 3 0, .ref 251, .bool true, .int 181 0, .ref 252, .none, .ref 253, .ref 254, .ref 255, .int 608 0, .int 123 0, .str "/claim/cut.py" 609].toArray, #[]⟩) (.nil) (.nil)) (.nil)) (.node (⟨.type "tuple", none, .seq [].toArray 0, #[]⟩) (.nil) (.nil))) (.node (⟨.none, none, .func (fnG (clsS 8 0) "__init__" "TableThing.__init__" 0 (.none) (.none) (.none) (.none) 0), #[]⟩) (.node (kdict P (.type "dict") none (([("__module__", 440, .str "gemrows.things" 194), ("__firstlineno__", 444, .int 54 443), ("__init__", 462, .ref 158), ("__static_attributes__", 472, .ref 159), ("__doc__", 473, .none)] : List DRow)) 2 #[]) (.nil) (.nil)) (.node (⟨.type "code", none, .fields [.str "is_own" 559, .str "ModuleThing.is_own" 560, .str "/claim/cut.py" 561, .int 97 0, .int 1 0, .int 0 0, .int 0 0, .int 3 0, .ref 219, .bool true, .int 181 0, .ref 220, .none, .ref 221, .ref 222, .ref 223, .int 563 0, .int 97 0, .str "/claim/cut.py" 564].toArray, #[]⟩) (.nil) (.nil)))) (.node (⟨.type "tuple", none, .seq [].toArray 0, #[]⟩) (.node (⟨.type "tuple", none, .seq [.str "items" 345].toArray 0, #[]⟩) (.node (⟨.type "builtin_function_or_method", none, .fields [.builtin "type.__prepare__", .type "type"].toArray, #[]⟩) (.nil) (.nil)) (.node (⟨.none, none, .fields [.int 83 0, .int 4 0, .ref 217, .int 97 0, .int 4 0, .ref 224].toArray, #[]⟩) (.nil) (.nil))) (.node (⟨.type "function", none, .func (fnG (clsS 8 2) "row" "TableThing.row" 3 (.none) (.none) (.str "gemrows.things" 194) (.ref 111) 0), #[]⟩) (.node (⟨.none, none, .func (fnG (clsS 11 0) "__init__" "ErrorThing.__init__" 0 (.none) (.none) (.none) (.none) 0), #[]⟩) (.nil) (.nil)) (.node (⟨.type "tuple", none, .seq [.str "one" 591, .str "other" 592, .str "sort" 593].toArray 0, #[]⟩) (.nil) (.nil))))) (.node (⟨.type "tuple", none, .seq [].toArray 0, #[]⟩) (.node (⟨.type "type", none, .cls ({ name := Str.ofString "Thing", bases := [Value.type "object"], mro := [Value.ref 40, Value.type "object"], ns := 39, qualname := Str.ofString "Thing", subclasses := [Value.ref 62, Value.ref 82, Value.ref 120, Value.ref 140, Value.ref 161, Value.ref 181, Value.ref 201, Value.ref 228] }), [none, none, some (.str "Thing" 260), some (.str "Thing" 268), some (.builtin "object.__new__"), some (.bool true)].toArray⟩) (.node (⟨.type "tuple", none, .seq [.none].toArray 0, #[]⟩) (.node (⟨.type "code", none, .fields [.str "__init__" 414, .str "RangeThing.__init__" 415, .str "/claim/cut.py" 416, .int 49 0, .int 6 0, .int 0 0, .int 0 0, .int 3 0, .ref 131, .bool true, .int 181 0, .ref 132, .none, .ref 133, .ref 134, .ref 135, .int 423 0, .int 49 0, .str "/claim/cut.py" 424].toArray, #[]⟩) (.node (⟨.type "function", none, .func (fnG (topS 18) "is_label" "is_label" 3 (.none) (.none) (.str "gemrows.things" 194) (.ref 263) 0), #[]⟩) (.nil) (.nil)) (.nil)) (.node (kdict P (.type "dict") none (([("__module__", 511, .str "gemrows.things" 194), ("__firstlineno__", 515, .int 73 514), ("__init__", 525, .ref 198), ("__static_attributes__", 530, .ref 199), ("__doc__", 531, .none)] : List DRow)) 2 #[]) (.nil) (.nil))) (.node (⟨.type "code", none, .fields [.str "put" 371, .str "TableThing.put" 372, .str "/claim/cut.py" 373, .int 34 0, .int 3 0, .int 0 0, .int 0 0, .int 3 0, .ref 99, .bool true, .int 181 0, .ref 100, .none, .ref 101, .ref 102, .ref 103, .int 379 0, .int 34 0, .str "/claim/cut.py" 380].toArray, #[]⟩) (.node (⟨.none, none, .fields [.int 69 0, .int 4 0, .ref 177].toArray, #[]⟩) (.nil) (.nil)) (.node (⟨.none, none, .fields [].toArray, #[]⟩) (.nil) (.nil)))) (.node (⟨.type "tuple", none, .seq [].toArray 0, #[]⟩) (.node (⟨.type "tuple", none, .seq [].toArray 0, #[]⟩) (.node (⟨.type "tuple", none, .seq [].toArray 0, #[]⟩) (.nil) (.nil)) (.node (⟨.none, none, .func (fnG (clsS 13 0) "__init__" "ModuleThing.__init__" 0 (.none) (.none) (.none) (.none) 0), #[]⟩) (.nil) (.nil))) (.node (⟨.type "type", none, .cls ({ name := Str.ofString "TableThing", bases := [Value.ref 40], mro := [Value.ref 120, Value.ref 40, Value.type "object"], ns := 119, qualname := Str.ofString "TableThing" }), [some (.ref 85), none, some (.str "TableThing" 350), some (.str "TableThing" 358), some (.builtin "object.__new__"), some (.bool true)].toArray⟩) (.node (⟨.type "tuple", none, .seq [.ref 40].toArray 0, #[]⟩) (.nil) (.nil)) (.node (⟨.none, none, .func (fnG (topS 16) "code_of" "code_of" 0 (.none) (.none) (.none) (.none) 0), #[]⟩) (.nil) (.nil)))))) (.node (⟨.none, none, .fields [.int 1 0, .int 0 0, .ref 20, .int 8 0, .int 0 0, .ref 29, .int 17 0, .int 0 0, .ref 50, .int 22 0, .int 0 0, .ref 70, .int 27 0, .int 0 0, .ref 90, .int 47 0, .int 0 0, .ref 128, .int 54 0, .int 0 0, .ref 148, .int 67 0, .int 0 0, .ref 169, .int 73 0, .int 0 0, .ref 189, .int 81 0, .int 0 0, .ref 209, .int 99 0, .int 0 0, .ref 236, .int 107 0, .int 0 0, .ref 243, .int 112 0, .int 0 0, .ref 249, .int 123 0, .int 0 0, .ref 256, .int 130 0, .int 0 0, .ref 263, .int 132 0, .int 0 0, .ref 270].toArray, #[]⟩) (.node (⟨.type "code", none, .fields [.str "_wall" 187, .str "_wall" 188, .str "/claim/cut.py" 189, .int 1 0, .int 1 0, .int 0 0, .int 0 0, .int 3 0, .ref 15, .bool true, .int 181 0, .ref 16, .none, .ref 17, .ref 18, .ref 19, .int 191 0, .int 1 0, .str "/claim/cut.py" 192].toArray, #[]⟩) (.node (⟨.type "code", none, .fields [.str "__init__" 272, .str "Thing.__init__" 273, .str "/claim/cut.py" 274, .int 10 0, .int 3 0, .int 0 0, .int 0 0, .int 3 0, .ref 31, .bool true, .int 181 0, .ref 32, .none, .ref 33, .ref 34, .ref 35, .int 278 0, .int 10 0, .str "/claim/cut.py" 279].toArray, #[]⟩) (.node (⟨.type "tuple", none, .seq [].toArray 0, #[]⟩) (.node (⟨.none, none, .fields [].toArray, #[]⟩) (.node (⟨.type "tuple", none, .seq [.str "name" 614].toArray 0, #[]⟩) (.nil) (.nil)) (.nil)) (.node (⟨.none, none, .func (fnG (clsS 12 0) "__init__" "FiberThing.__init__" 0 (.none) (.none) (.none) (.none) 0), #[]⟩) (.nil) (.nil))) (.node (⟨.none, none, .fields [].toArray, #[]⟩) (.node (⟨.type "tuple", none, .seq [.ref 40].toArray 0, #[]⟩) (.nil) (.nil)) (.node (⟨.type "type", none, .cls ({ name := Str.ofString "ModuleThing", bases := [Value.ref 40], mro := [Value.ref 228, Value.ref 40, Value.type "object"], ns := 227, qualname := Str.ofString "ModuleThing" }), [some (.ref 204), none, some (.str "ModuleThing" 534), some (.str "ModuleThing" 542), some (.builtin "object.__new__"), some (.bool true)].toArray⟩) (.nil) (.nil)))) (.node (⟨.type "tuple", none, .seq [.str "" 307].toArray 0, #[]⟩) (.node (⟨.type "builtin_function_or_method", none, .fields [.builtin "object.__init_subclass__", .ref 82].toArray, #[]⟩) (.node (⟨.type "code", none, .fields [.str "ProcThing" 435, .str "ProcThing" 436, .str "/claim/cut.py" 437, .int 54 0, .int 0 0, .int 0 0, .int 0 0, .int 0 0, .ref 146, .bool false, .int 181 0, .ref 147, .none, .none, .none, .none, .int 438 0, .int 54 0, .str "/claim/cut.py" 439].toArray, #[]⟩) (.nil) (.nil)) (.node (⟨.type "tuple", none, .seq [].toArray 0, #[]⟩) (.nil) (.nil))) (.node (⟨.type "code", none, .fields [.str "pairs" 390, .str "TableThing.pairs" 391, .str "/claim/cut.py" 392, .int 45 0, .int 1 0, .int 0 0, .int 0 0, .int 3 0, .ref 113, .bool true, .int 181 0, .ref 114, .none, .none, .none, .ref 115, .int 393 0, .int 45 0, .str "/claim/cut.py" 394].toArray, #[]⟩) (.node (kdict P (.type "dict") none (([("__module__", 483, .str "gemrows.things" 194), ("__firstlineno__", 487, .int 67 486), ("__init__", 497, .ref 178), ("__static_attributes__", 500, .ref 179), ("__doc__", 501, .none)] : List DRow)) 2 #[]) (.nil) (.nil)) (.node (⟨.type "function", none, .func (fnG (topS 15) "same" "same" 3 (.none) (.none) (.str "gemrows.things" 194) (.ref 243) 0), #[]⟩) (.nil) (.nil))))) (.node (⟨.none, none, .fields [.int 10 0, .int 4 0, .ref 36].toArray, #[]⟩) (.node (⟨.type "builtin_function_or_method", none, .fields [.builtin "object.__init_subclass__", .ref 40].toArray, #[]⟩) (.node (⟨.type "tuple", none, .seq [].toArray 0, #[]⟩) (.node (⟨.type "type", none, .cls ({ name := Str.ofString "RangeThing", bases := [Value.ref 40], mro := [Value.ref 140, Value.ref 40, Value.type "object"], ns := 139, qualname := Str.ofString "RangeThing" }), [some (.ref 123), none, some (.str "RangeThing" 402), some (.str "RangeThing" 410), some (.builtin "object.__new__"), some (.bool true)].toArray⟩) (.node (⟨.type "tuple", none, .seq [].toArray 0, #[]⟩) (.nil) (.nil)) (.nil)) (.node (⟨.type "tuple", none, .seq [.ref 40].toArray 0, #[]⟩) (.nil) (.nil))) (.node (⟨.type "tuple", none, .seq [.str "self" 385, .str "key" 386].toArray 0, #[]⟩) (.node (⟨.type "tuple", none, .seq [].toArray 0, #[]⟩) (.nil) (.nil)) (.node (⟨.type "code", none, .fields [.str "sort_of" 581, .str "sort_of" 582, .str "/claim/cut.py" 583, .int 99 0, .int 1 0, .int 0 0, .int 0 0, .int 3 0, .ref 231, .bool true, .int 181 0, .ref 232, .none, .ref 233, .ref 234, .ref 235, .int 585 0, .int 99 0, .str "/claim/cut.py" 586].toArray, #[]⟩) (.nil) (.nil)))) (.node (⟨.type "tuple", none, .seq [.str "text" 318].toArray 0, #[]⟩) (.node (⟨.type "tuple", none, .seq [].toArray 0, #[]⟩) (.node (⟨.none, none, .func (fnG (clsS 10 0) "__init__" "ProcThing.__init__" 0 (.none) (.none) (.none) (.none) 0), #[]⟩) (.nil) (.nil)) (.node (⟨.none, none, .fields [].toArray, #[]⟩) (.nil) (.nil))) (.node (⟨.type "builtin_function_or_method", none, .fields [.builtin "type.__prepare__", .type "type"].toArray, #[]⟩) (.node (⟨.none, none, .fields [.int 75 0, .int 4 0, .ref 197].toArray, #[]⟩) (.nil) (.nil)) (.node (⟨.none, none, .fields [].toArray, #[]⟩) (.nil) (.nil))))))) (.node (boot_o_6 P) (.node (boot_o_10 P) (.node (⟨.type "tuple", none, .seq [].toArray 0, #[]⟩) (.node (⟨.type "tuple", none, .seq [].toArray 0, #[]⟩) (.node (⟨.type "builtin_function_or_method", none, .fields [.builtin "type.__prepare__", .type "type"].toArray, #[]⟩) (.node (⟨.type "tuple", none, .seq [.none, .none, .bool false].toArray 0, #[]⟩) (.node (⟨.type "tuple", none, .seq [].toArray 0, #[]⟩) (.nil) (.nil)) (.nil)) (.node (⟨.type "tuple", none, .seq [.str "self" 519, .str "number" 520, .str "owner" 521, .str "proc" 522].toArray 0, #[]⟩) (.nil) (.nil))) (.node (⟨.type "function", none, .func (fnG (clsS 8 0) "__init__" "TableThing.__init__" 3 (.none) (.none) (.str "gemrows.things" 194) (.ref 97) 0), #[]⟩) (.node (⟨.type "super", none, .fields [.ref 161, .ref 161, .ref 161].toArray, #[]⟩) (.nil) (.nil)) (.node (⟨.type "tuple", none, .seq [.str "ahead" 566, .str "attached" 567, .str "constants" 568, .str "is_class" 569, .str "kept" 570, .str "methods" 571, .str "mixed" 572, .str "name" 573, .str "native" 574, .str "outer" 575, .str "parent" 576].toArray 0, #[]⟩) (.nil) (.nil)))) (.node (⟨.type "code", none, .fields [.str "Text" 297, .str "Text" 298, .str "/claim/cut.py" 299, .int 17 0, .int 0 0, .int 0 0, .int 0 0, .int 0 0, .ref 48, .bool false, .int 181 0, .ref 49, .none, .none, .none, .none, .int 300 0, .int 17 0, .str "/claim/cut.py" 301].toArray, #[]⟩) (.node (⟨.type "type", none, .cls ({ name := Str.ofString "ListThing", bases := [Value.ref 40], mro := [Value.ref 82, Value.ref 40, Value.type "object"], ns := 81, qualname := Str.ofString "ListThing" }), [some (.ref 65), none, some (.str "ListThing" 323), some (.str "ListThing" 331), some (.builtin "object.__new__"), some (.bool true)].toArray⟩) (.node (⟨.type "tuple", none, .seq [].toArray 0, #[]⟩) (.nil) (.nil)) (.node (⟨.type "frame", none, .plain, [some (.ref 209), some (.ref 3), some (.ref 206), none, some (.str "gemrows.things" 194), none, some (.ref 0)].toArray⟩) (.nil) (.nil))) (.node (⟨.none, none, .fields [].toArray, #[]⟩) (.node (⟨.type "function", none, .func (fnG (clsS 11 0) "__init__" "ErrorThing.__init__" 3 (.ref 171) (.none) (.str "gemrows.things" 194) (.ref 177) 0), #[]⟩) (.nil) (.nil)) (.node (⟨.none, none, .func (fnG (topS 15) "same" "same" 0 (.none) (.none) (.none) (.none) 0), #[]⟩) (.nil) (.nil))))) (.node (kdict P (.type "dict") none (([("__module__", 267, .str "gemrows.things" 194), ("__qualname__", 269, .str "Thing" 268), ("__firstlineno__", 271, .int 8 270), ("__init__", 280, .ref 37), ("__static_attributes__", 287, .ref 38)] : List DRow)) 5 #[]) (.node (⟨.type "getset_descriptor", none, .fields [.str "__weakref__" 290, .ref 40, .builtin "ExceptionGroup.__weakref__", .none].toArray, #[]⟩) (.node (⟨.none, none, .fields [].toArray, #[]⟩) (.node (⟨.type "tuple", none, .seq [.str "first" 426, .str "last" 427, .str "open" 428].toArray 0, #[]⟩) (.node (⟨.none, none, .fields [].toArray, #[]⟩) (.nil) (.nil)) (.nil)) (.node (⟨.type "super", none, .fields [.ref 201, .ref 201, .ref 201].toArray, #[]⟩) (.nil) (.nil))) (.node (⟨.type "tuple", none, .seq [].toArray 0, #[]⟩) (.node (⟨.type "frame", none, .plain, [some (.ref 169), some (.ref 3), some (.ref 166), none, some (.str "gemrows.things" 194), none, some (.ref 0)].toArray⟩) (.nil) (.nil)) (.node (⟨.type "tuple", none, .seq [].toArray 0, #[]⟩) (.nil) (.nil)))) (.node (⟨.type "code", none, .fields [.str "__init__" 308, .str "Text.__init__" 309, .str "/claim/cut.py" 310, .int 19 0, .int 4 0, .int 0 0, .int 0 0, .int 3 0, .ref 53, .bool true, .int 181 0, .ref 54, .none, .ref 55, .ref 56, .ref 57, .int 315 0, .int 19 0, .str "/claim/cut.py" 316].toArray, #[]⟩) (.node (⟨.type "code", none, .fields [.str "TableThing" 352, .str "TableThing" 353, .str "/claim/cut.py" 354, .int 27 0, .int 0 0, .int 0 0, .int 0 0, .int 0 0, .ref 88, .bool false, .int 181 0, .ref 89, .none, .none, .none, .none, .int 355 0, .int 27 0, .str "/claim/cut.py" 356].toArray, #[]⟩) (.node (⟨.type "tuple", none, .seq [.str "self" 448, .str "number" 449, .str "owner" 450, .str "params" 451, .str "body" 452, .str "env" 453, .str "self_value" 454, .str "nesting" 455, .str "home" 456, .str "site" 457, .str "is_lambda" 458, .str "definer" 459].toArray 0, #[]⟩) (.nil) (.nil)) (.node (⟨.type "function", none, .func (fnG (clsS 13 0) "__init__" "ModuleThing.__init__" 3 (.ref 211) (.none) (.str "gemrows.things" 194) (.ref 217) 0), #[]⟩) (.nil) (.nil))) (.node (⟨.type "builtin_function_or_method", none, .fields [.builtin "object.__init_subclass__", .ref 120].toArray, #[]⟩) (.node (kdict P (.type "dict") none (([("__module__", 511, .str "gemrows.things" 194), ("__qualname__", 513, .str "FiberThing" 512), ("__firstlineno__", 515, .int 73 514), ("__init__", 525, .ref 198), ("__static_attributes__", 530, .ref 199)] : List DRow)) 5 #[]) (.nil) (.nil)) (.node (⟨.type "function", none, .func (fnG (topS 16) "code_of" "code_of" 3 (.ref 245) (.none) (.str "gemrows.things" 194) (.ref 249) 0), #[]⟩) (.nil) (.nil)))))) (.node (o14) (.node (kdict P (.type "dict") none (([("\\", 196, .str "\\\\" 197), ("\"", 198, .str "\\\"" 199), ("\n", 200, .str "\\n" 201), ("\t", 202, .str "\\t" 203), ("\x0d", 204, .str "\\r" 205), ("\x1b", 206, .str "\\e" 207), ("\x07", 208, .str "\\a" 209), ("\x08", 210, .str "\\b" 211), ("\x0b", 212, .str "\\v" 213), ("\x0c", 214, .str "\\f" 215), ("\x7f", 216, .str "\\x7F" 217)] : List DRow)) 11 #[]) (.node (⟨.type "tuple", none, .seq [.str "fields" 281, .str "frozen" 282, .str "ident" 283, .str "number" 284, .str "own" 285, .str "owner" 286].toArray 0, #[]⟩) (.node (⟨.type "code", none, .fields [.str "ListThing" 325, .str "ListThing" 326, .str "/claim/cut.py" 327, .int 22 0, .int 0 0, .int 0 0, .int 0 0, .int 0 0, .ref 68, .bool false, .int 181 0, .ref 69, .none, .none, .none, .none, .int 328 0, .int 22 0, .str "/claim/cut.py" 329].toArray, #[]⟩) (.node (⟨.type "tuple", none, .seq [].toArray 0, #[]⟩) (.node (⟨.none, none, .func (fnG (topS 18) "is_label" "is_label" 0 (.none) (.none) (.none) (.none) 0), #[]⟩) (.nil) (.nil)) (.nil)) (.node (⟨.type "function", none, .func (fnG (clsS 12 0) "__init__" "FiberThing.__init__" 3 (.ref 191) (.none) (.str "gemrows.things" 194) (.ref 197) 0), #[]⟩) (.nil) (.nil))) (.node (⟨.type "tuple", none, .seq [].toArray 0, #[]⟩) (.node (kdict P (.type "dict") none (([("__module__", 483, .str "gemrows.things" 194), ("__qualname__", 485, .str "ErrorThing" 484), ("__firstlineno__", 487, .int 67 486), ("__init__", 497, .ref 178), ("__static_attributes__", 500, .ref 179)] : List DRow)) 5 #[]) (.nil) (.nil)) (.node (⟨.type "builtin_function_or_method", none, .fields [.builtin "object.__init_subclass__", .ref 228].toArray, #[]⟩) (.nil) (.nil)))) (.node (⟨.none, none, .fields [].toArray, #[]⟩) (.node (⟨.type "builtin_function_or_method", none, .fields [.builtin "type.__prepare__", .type "type"].toArray, #[]⟩) (.node (⟨.type "tuple", none, .seq [].toArray 0, #[]⟩) (.nil) (.nil)) (.node (⟨.type "tuple", none, .seq [.str "self" 549, .str "number" 550, .str "owner" 551, .str "name" 552, .str "is_class" 553, .str "parent" 554, .str "outer" 555].toArray 0, #[]⟩) (.nil) (.nil))) (.node (⟨.type "tuple", none, .seq [.str "rows" 396, .str "spare" 397].toArray 0, #[]⟩) (.node (⟨.type "super", none, .fields [.ref 181, .ref 181, .ref 181].toArray, #[]⟩) (.nil) (.nil)) (.node (⟨.type "tuple", none, .seq [].toArray 0, #[]⟩) (.nil) (.nil))))) (.node (⟨.type "frame", none, .plain, [some (.ref 29), some (.ref 3), some (.ref 26), none, some (.str "gemrows.things" 194), none, some (.ref 0)].toArray⟩) (.node (⟨.type "builtin_function_or_method", none, .fields [.builtin "type.__prepare__", .type "type"].toArray, #[]⟩) (.node (⟨.type "code", none, .fields [.str "__init__" 335, .str "ListThing.__init__" 336, .str "/claim/cut.py" 337, .int 24 0, .int 4 0, .int 0 0, .int 0 0, .int 3 0, .ref 73, .bool true, .int 181 0, .ref 74, .none, .ref 75, .ref 76, .ref 77, .int 342 0, .int 24 0, .str "/claim/cut.py" 343].toArray, #[]⟩) (.node (⟨.type "builtin_function_or_method", none, .fields [.builtin "object.__init_subclass__", .ref 140].toArray, #[]⟩) (.node (⟨.type "code", none, .fields [.str "is_plain_symbol" 618, .str "is_plain_symbol" 619, .str "/claim/cut.py" 620, .int 132 0, .int 1 0, .int 0 0, .int 0 0, .int 3 0, .ref 265, .bool true, .int 181 0, .ref 266, .none, .ref 267, .ref 268, .ref 269, .int 622 0, .int 132 0, .str "/claim/cut.py" 623].toArray, #[]⟩) (.nil) (.nil)) (.nil)) (.node (kdict P (.type "dict") none (([("__module__", 541, .str "gemrows.things" 194), ("__qualname__", 543, .str "ModuleThing" 542), ("__firstlineno__", 545, .int 81 544), ("__init__", 558, .ref 218), ("is_own", 565, .ref 225), ("__static_attributes__", 577, .ref 226)] : List DRow)) 6 #[]) (.nil) (.nil))) (.node (⟨.none, none, .func (fnG (clsS 8 2) "row" "TableThing.row" 0 (.none) (.none) (.none) (.none) 0), #[]⟩) (.node (⟨.type "tuple", none, .seq [.str "self" 491, .str "number" 492, .str "owner" 493, .str "message" 494].toArray 0, #[]⟩) (.nil) (.nil)) (.node (⟨.type "tuple", none, .seq [].toArray 0, #[]⟩) (.nil) (.nil)))) (.node (⟨.type "type", none, .cls ({ name := Str.ofString "Text", bases := [Value.ref 40], mro := [Value.ref 62, Value.ref 40, Value.type "object"], ns := 61, qualname := Str.ofString "Text" }), [some (.ref 45), none, some (.str "Text" 295), some (.str "Text" 303), some (.builtin "object.__new__"), some (.bool true)].toArray⟩) (.node (⟨.type "tuple", none, .seq [.str "self" 365, .str "number" 366, .str "owner" 367].toArray 0, #[]⟩) (.node (⟨.type "function", none, .func (fnG (clsS 10 0) "__init__" "ProcThing.__init__" 3 (.ref 151) (.none) (.str "gemrows.things" 194) (.ref 157) 0), #[]⟩) (.nil) (.nil)) (.node (⟨.type "tuple", none, .seq [].toArray 0, #[]⟩) (.nil) (.nil))) (.node (⟨.type "tuple", none, .seq [].toArray 0, #[]⟩) (.node (⟨.type "frame", none, .plain, [some (.ref 189), some (.ref 3), some (.ref 186), none, some (.str "gemrows.things" 194), none, some (.ref 0)].toArray⟩) (.nil) (.nil)) (.node (⟨.type "tuple", none, .seq [].toArray 0, #[]⟩) (.nil) (.nil))))))))
def st20 (P : Params) (os : OsState) : SharedT := ⟨tree20 P, 272, {}, #[], {}, 625, os⟩
def pos20 : Pos := ⟨132, 0, 139, 71⟩
def tree33 (P : Params) : BT := .node (boot_o_0 P) (.node (boot_o_1 P) (.node (kdict P (.type "dict") none (([("__name__", 165, .str "gemrows.main" 701), ("__doc__", 166, .none), ("__package__", 167, .none), ("__loader__", 168, .builtin "__main__.__loader__#opaque"), ("__spec__", 169, .none), ("__annotations__", 170, .ref 6), ("__builtins__", 171, .ref 4), ("__file__", 173, .str "/claim/cut.py" 172), ("__cached__", 174, .none), ("_wall", 193, .ref 21), ("SIMPLE_ESCAPES", 229, .ref 22), ("OPERATORS", 257, .ref 23), ("DEEPEST_KEY", 259, .int 12 258), ("Thing", 294, .ref 40), ("Text", 322, .ref 62), ("ListThing", 349, .ref 82), ("TableThing", 401, .ref 120), ("RangeThing", 432, .ref 140), ("ProcThing", 475, .ref 161), ("ErrorThing", 503, .ref 181)] : List DRow) ++ ([("FiberThing", 533, .ref 201), ("ModuleThing", 580, .ref 228), ("sort_of", 587, .ref 237), ("same", 596, .ref 244), ("code_of", 602, .ref 250), ("is_word", 610, .ref 257), ("is_label", 617, .ref 264), ("is_plain_symbol", 624, .ref 271), ("full_name", 631, .ref 278), ("show_letter", 641, .ref 285), ("show_text", 647, .ref 290), ("show_symbol", 654, .ref 297), ("show_pair", 663, .ref 304), ("show_range", 673, .ref 311), ("show_thing", 679, .ref 316), ("show_error", 690, .ref 323), ("show", 700, .ref 331), ("Result", 744, .ref 355), ("show_raised", 752, .ref 366), ("result_of", 762, .ref 373)] : List DRow)) 40 #[]) (.node (boot_o_7 P) (.node (gO (tree20 P) 15) (.node (gO (tree20 P) 31) (.node (gO (tree20 P) 63) (.node (gO (tree20 P) 127) (.node (gO (tree20 P) 255) (.nil) (.nil)) (.nil)) (.node (gO (tree20 P) 191) (.node (⟨.type "tuple", none, .seq [.str "value" 683, .str "name" 684, .str "deep" 685, .str "message" 686, .str "told" 687].toArray 0, #[]⟩) (.nil) (.nil)) (.nil))) (.node (gO (tree20 P) 95) (.node (gO (tree20 P) 159) (.node (⟨.none, none, .fields [].toArray, #[]⟩) (.nil) (.nil)) (.nil)) (.node (gO (tree20 P) 223) (.node (⟨.type "code", none, .fields [.str "told" 726, .str "Result.told" 727, .str "/claim/cut.py" 728, .int 218 0, .int 1 0, .int 0 0, .int 0 0, .int 3 0, .ref 346, .bool true, .int 181 0, .ref 347, .none, .ref 348, .ref 349, .ref 350, .int 730 0, .int 218 0, .str "/claim/cut.py" 731].toArray, #[]⟩) (.nil) (.nil)) (.nil)))) (.node (gO (tree20 P) 47) (.node (gO (tree20 P) 79) (.node (gO (tree20 P) 143) (.node (gO (tree20 P) 271) (.nil) (.nil)) (.nil)) (.node (gO (tree20 P) 207) (.node (⟨.type "tuple", none, .seq [].toArray 0, #[]⟩) (.nil) (.nil)) (.nil))) (.node (gO (tree20 P) 111) (.node (gO (tree20 P) 175) (.node (⟨.type "code", none, .fields [.str "show_pair" 655, .str "show_pair" 656, .str "/claim/cut.py" 657, .int 163 0, .int 3 0, .int 0 0, .int 0 0, .int 3 0, .ref 298, .bool true, .int 181 0, .ref 299, .none, .ref 300, .ref 301, .ref 302, .int 661 0, .int 163 0, .str "/claim/cut.py" 662].toArray, #[]⟩) (.nil) (.nil)) (.nil)) (.node (gO (tree20 P) 239) (.node (⟨.type "tuple", none, .seq [].toArray 0, #[]⟩) (.nil) (.nil)) (.nil))))) (.node (gO (tree20 P) 23) (.node (gO (tree20 P) 39) (.node (gO (tree20 P) 71) (.node (gO (tree20 P) 135) (.node (gO (tree20 P) 263) (.nil) (.nil)) (.nil)) (.node (gO (tree20 P) 199) (.node (⟨.type "tuple", none, .seq [.str "value" 695, .str "deep" 696, .str "sort" 697].toArray 0, #[]⟩) (.nil) (.nil)) (.nil))) (.node (gO (tree20 P) 103) (.node (gO (tree20 P) 167) (.node (⟨.none, none, .func (fnG (topS 23) "show_symbol" "show_symbol" 0 (.none) (.none) (.none) (.none) 0), #[]⟩) (.nil) (.nil)) (.nil)) (.node (gO (tree20 P) 231) (.node (⟨.type "builtin_function_or_method", none, .fields [.builtin "object.__init_subclass__", .ref 355].toArray, #[]⟩) (.nil) (.nil)) (.nil)))) (.node (gO (tree20 P) 55) (.node (gO (tree20 P) 87) (.node (gO (tree20 P) 151) (.node (⟨.type "tuple", none, .seq [].toArray 0, #[]⟩) (.nil) (.nil)) (.nil)) (.node (gO (tree20 P) 215) (.node (⟨.none, none, .func (fnG (clsS 30 0) "__init__" "Result.__init__" 0 (.none) (.none) (.none) (.none) 0), #[]⟩) (.nil) (.nil)) (.nil))) (.node (gO (tree20 P) 119) (.node (gO (tree20 P) 183) (.node (⟨.type "function", none, .func (fnG (topS 25) "show_range" "show_range" 3 (.none) (.none) (.str "gemrows.things" 194) (.ref 310) 0), #[]⟩) (.nil) (.nil)) (.nil)) (.node (gO (tree20 P) 247) (.nil) (.nil)))))) (.node (o11) (.node (gO (tree20 P) 19) (.node (gO (tree20 P) 35) (.node (gO (tree20 P) 67) (.node (gO (tree20 P) 131) (.node (gO (tree20 P) 259) (.nil) (.nil)) (.nil)) (.node (gO (tree20 P) 195) (.node (⟨.type "function", none, .func (fnG (topS 27) "show_error" "show_error" 3 (.none) (.none) (.str "gemrows.things" 194) (.ref 322) 0), #[]⟩) (.nil) (.nil)) (.nil))) (.node (gO (tree20 P) 99) (.node (gO (tree20 P) 163) (.node (⟨.type "tuple", none, .seq [].toArray 0, #[]⟩) (.nil) (.nil)) (.nil)) (.node (gO (tree20 P) 227) (.node (⟨.type "type", none, .cls ({ name := Str.ofString "Result", bases := [Value.type "object"], mro := [Value.ref 355, Value.type "object"], ns := 354, qualname := Str.ofString "Result" }), [none, none, some (.str "Result" 703), some (.str "Result" 711), some (.builtin "object.__new__"), some (.bool true)].toArray⟩) (.nil) (.nil)) (.nil)))) (.node (gO (tree20 P) 51) (.node (gO (tree20 P) 83) (.node (gO (tree20 P) 147) (.node (⟨.type "tuple", none, .seq [].toArray 0, #[]⟩) (.nil) (.nil)) (.nil)) (.node (gO (tree20 P) 211) (.node (⟨.type "tuple", none, .seq [].toArray 0, #[]⟩) (.nil) (.nil)) (.nil))) (.node (gO (tree20 P) 115) (.node (gO (tree20 P) 179) (.node (⟨.type "tuple", none, .seq [.str "value" 667, .str "deep" 668, .str "first" 669, .str "last" 670].toArray 0, #[]⟩) (.nil) (.nil)) (.nil)) (.node (gO (tree20 P) 243) (.node (⟨.none, none, .func (fnG (topS 32) "result_of" "result_of" 0 (.none) (.none) (.none) (.none) 0), #[]⟩) (.nil) (.nil)) (.nil))))) (.node (gO (tree20 P) 27) (.node (gO (tree20 P) 43) (.node (gO (tree20 P) 75) (.node (gO (tree20 P) 139) (.node (gO (tree20 P) 267) (.nil) (.nil)) (.nil)) (.node (gO (tree20 P) 203) (.node (⟨.type "function", none, .func (fnG (topS 28) "show" "show" 3 (.ref 324) (.none) (.str "gemrows.things" 194) (.ref 330) 0), #[]⟩) (.nil) (.nil)) (.nil))) (.node (gO (tree20 P) 107) (.node (gO (tree20 P) 171) (.node (⟨.none, none, .fields [].toArray, #[]⟩) (.nil) (.nil)) (.nil)) (.node (gO (tree20 P) 235) (.node (⟨.type "tuple", none, .seq [].toArray 0, #[]⟩) (.nil) (.nil)) (.nil)))) (.node (gO (tree20 P) 59) (.node (gO (tree20 P) 91) (.node (gO (tree20 P) 155) (.node (⟨.none, none, .func (fnG (topS 21) "show_letter" "show_letter" 0 (.none) (.none) (.none) (.none) 0), #[]⟩) (.nil) (.nil)) (.nil)) (.node (gO (tree20 P) 219) (.node (⟨.none, none, .fields [].toArray, #[]⟩) (.nil) (.nil)) (.nil))) (.node (gO (tree20 P) 123) (.node (gO (tree20 P) 187) (.node (⟨.type "code", none, .fields [.str "show_thing" 674, .str "show_thing" 675, .str "/claim/cut.py" 676, .int 171 0, .int 2 0, .int 0 0, .int 0 0, .int 3 0, .ref 312, .bool true, .int 181 0, .ref 313, .none, .none, .none, .ref 314, .int 677 0, .int 171 0, .str "/claim/cut.py" 678].toArray, #[]⟩) (.nil) (.nil)) (.nil)) (.node (gO (tree20 P) 251) (.nil) (.nil))))))) (.node (boot_o_5 P) (.node (boot_o_9 P) (.node (gO (tree20 P) 17) (.node (gO (tree20 P) 33) (.node (gO (tree20 P) 65) (.node (gO (tree20 P) 129) (.node (gO (tree20 P) 257) (.nil) (.nil)) (.nil)) (.node (gO (tree20 P) 193) (.node (⟨.none, none, .func (fnG (topS 27) "show_error" "show_error" 0 (.none) (.none) (.none) (.none) 0), #[]⟩) (.nil) (.nil)) (.nil))) (.node (gO (tree20 P) 97) (.node (gO (tree20 P) 161) (.node (⟨.type "code", none, .fields [.str "show_text" 642, .str "show_text" 643, .str "/claim/cut.py" 644, .int 158 0, .int 1 0, .int 0 0, .int 0 0, .int 3 0, .ref 286, .bool true, .int 181 0, .ref 287, .none, .none, .none, .ref 288, .int 645 0, .int 158 0, .str "/claim/cut.py" 646].toArray, #[]⟩) (.nil) (.nil)) (.nil)) (.node (gO (tree20 P) 225) (.node (⟨.type "tuple", none, .seq [.str "out" 733, .str "shown" 734, .str "sort" 735, .str "steps" 736].toArray 0, #[]⟩) (.nil) (.nil)) (.nil)))) (.node (gO (tree20 P) 49) (.node (gO (tree20 P) 81) (.node (gO (tree20 P) 145) (.node (⟨.none, none, .fields [].toArray, #[]⟩) (.nil) (.nil)) (.nil)) (.node (gO (tree20 P) 209) (.node (⟨.type "code", none, .fields [.str "Result" 705, .str "Result" 706, .str "/claim/cut.py" 707, .int 210 0, .int 0 0, .int 0 0, .int 0 0, .int 0 0, .ref 335, .bool false, .int 181 0, .ref 336, .none, .none, .none, .none, .int 708 0, .int 210 0, .str "/claim/cut.py" 709].toArray, #[]⟩) (.nil) (.nil)) (.nil))) (.node (gO (tree20 P) 113) (.node (gO (tree20 P) 177) (.node (⟨.type "tuple", none, .seq [].toArray 0, #[]⟩) (.nil) (.nil)) (.nil)) (.node (gO (tree20 P) 241) (.node (⟨.type "tuple", none, .seq [.str "world" 756, .str "sort" 757, .str "value" 758, .str "out" 759].toArray 0, #[]⟩) (.nil) (.nil)) (.nil))))) (.node (gO (tree20 P) 25) (.node (gO (tree20 P) 41) (.node (gO (tree20 P) 73) (.node (gO (tree20 P) 137) (.node (gO (tree20 P) 265) (.nil) (.nil)) (.nil)) (.node (gO (tree20 P) 201) (.node (⟨.none, none, .func (fnG (topS 28) "show" "show" 0 (.none) (.none) (.none) (.none) 0), #[]⟩) (.nil) (.nil)) (.nil))) (.node (gO (tree20 P) 105) (.node (gO (tree20 P) 169) (.node (⟨.type "function", none, .func (fnG (topS 23) "show_symbol" "show_symbol" 3 (.none) (.none) (.str "gemrows.things" 194) (.ref 296) 0), #[]⟩) (.nil) (.nil)) (.nil)) (.node (gO (tree20 P) 233) (.node (⟨.none, none, .fields [].toArray, #[]⟩) (.nil) (.nil)) (.nil)))) (.node (gO (tree20 P) 57) (.node (gO (tree20 P) 89) (.node (gO (tree20 P) 153) (.node (⟨.type "tuple", none, .seq [.str "letter" 635, .str "follower" 636, .str "number" 637, .str "figures" 638].toArray 0, #[]⟩) (.nil) (.nil)) (.nil)) (.node (gO (tree20 P) 217) (.node (⟨.type "function", none, .func (fnG (clsS 30 0) "__init__" "Result.__init__" 3 (.none) (.none) (.str "gemrows.main" 701) (.ref 344) 0), #[]⟩) (.nil) (.nil)) (.nil))) (.node (gO (tree20 P) 121) (.node (gO (tree20 P) 185) (.node (⟨.none, none, .fields [].toArray, #[]⟩) (.nil) (.nil)) (.nil)) (.node (gO (tree20 P) 249) (.nil) (.nil)))))) (.node (o13) (.node (gO (tree20 P) 21) (.node (gO (tree20 P) 37) (.node (gO (tree20 P) 69) (.node (gO (tree20 P) 133) (.node (gO (tree20 P) 261) (.nil) (.nil)) (.nil)) (.node (gO (tree20 P) 197) (.node (⟨.type "tuple", none, .seq [].toArray 0, #[]⟩) (.nil) (.nil)) (.nil))) (.node (gO (tree20 P) 101) (.node (gO (tree20 P) 165) (.node (⟨.type "tuple", none, .seq [.str "name" 651].toArray 0, #[]⟩) (.nil) (.nil)) (.nil)) (.node (gO (tree20 P) 229) (.node (⟨.type "getset_descriptor", none, .fields [.str "__weakref__" 740, .ref 355, .builtin "ExceptionGroup.__weakref__", .none].toArray, #[]⟩) (.nil) (.nil)) (.nil)))) (.node (gO (tree20 P) 53) (.node (gO (tree20 P) 85) (.node (gO (tree20 P) 149) (.node (⟨.type "code", none, .fields [.str "full_name" 625, .str "full_name" 626, .str "/claim/cut.py" 627, .int 140 0, .int 1 0, .int 0 0, .int 0 0, .int 3 0, .ref 272, .bool true, .int 181 0, .ref 273, .none, .ref 274, .ref 275, .ref 276, .int 629 0, .int 140 0, .str "/claim/cut.py" 630].toArray, #[]⟩) (.nil) (.nil)) (.nil)) (.node (gO (tree20 P) 213) (.node (⟨.type "tuple", none, .seq [.str "self" 718, .str "sort" 719, .str "shown" 720, .str "out" 721, .str "steps" 722].toArray 0, #[]⟩) (.nil) (.nil)) (.nil))) (.node (gO (tree20 P) 117) (.node (gO (tree20 P) 181) (.node (⟨.none, none, .func (fnG (topS 25) "show_range" "show_range" 0 (.none) (.none) (.none) (.none) 0), #[]⟩) (.nil) (.nil)) (.nil)) (.node (gO (tree20 P) 245) (.node (⟨.type "function", none, .func (fnG (topS 32) "result_of" "result_of" 3 (.none) (.none) (.str "gemrows.main" 701) (.ref 372) 0), #[]⟩) (.nil) (.nil)) (.nil))))) (.node (gO (tree20 P) 29) (.node (gO (tree20 P) 45) (.node (gO (tree20 P) 77) (.node (gO (tree20 P) 141) (.node (gO (tree20 P) 269) (.nil) (.nil)) (.nil)) (.node (gO (tree20 P) 205) (.node (⟨.type "builtin_function_or_method", none, .fields [.builtin "type.__prepare__", .type "type"].toArray, #[]⟩) (.nil) (.nil)) (.nil))) (.node (gO (tree20 P) 109) (.node (gO (tree20 P) 173) (.node (⟨.type "tuple", none, .seq [].toArray 0, #[]⟩) (.nil) (.nil)) (.nil)) (.node (gO (tree20 P) 237) (.node (⟨.type "code", none, .fields [.str "show_raised" 745, .str "show_raised" 746, .str "/claim/cut.py" 747, .int 220 0, .int 1 0, .int 0 0, .int 0 0, .int 3 0, .ref 360, .bool true, .int 181 0, .ref 361, .none, .ref 362, .ref 363, .ref 364, .int 750 0, .int 220 0, .str "/claim/cut.py" 751].toArray, #[]⟩) (.nil) (.nil)) (.nil)))) (.node (gO (tree20 P) 61) (.node (gO (tree20 P) 93) (.node (gO (tree20 P) 157) (.node (⟨.type "function", none, .func (fnG (topS 21) "show_letter" "show_letter" 3 (.none) (.none) (.str "gemrows.things" 194) (.ref 284) 0), #[]⟩) (.nil) (.nil)) (.nil)) (.node (gO (tree20 P) 221) (.node (⟨.type "tuple", none, .seq [].toArray 0, #[]⟩) (.nil) (.nil)) (.nil))) (.node (gO (tree20 P) 125) (.node (gO (tree20 P) 189) (.node (⟨.type "tuple", none, .seq [].toArray 0, #[]⟩) (.nil) (.nil)) (.nil)) (.node (gO (tree20 P) 253) (.nil) (.nil)))))))) (.node (boot_o_2 P) (.node (boot_o_4 P) (.node (boot_o_8 P) (.node (gO (tree20 P) 16) (.node (gO (tree20 P) 32) (.node (gO (tree20 P) 64) (.node (gO (tree20 P) 128) (.node (gO (tree20 P) 256) (.nil) (.nil)) (.nil)) (.node (gO (tree20 P) 192) (.node (⟨.type "tuple", none, .seq [].toArray 0, #[]⟩) (.nil) (.nil)) (.nil))) (.node (gO (tree20 P) 96) (.node (gO (tree20 P) 160) (.node (⟨.none, none, .func (fnG (topS 22) "show_text" "show_text" 0 (.none) (.none) (.none) (.none) 0), #[]⟩) (.nil) (.nil)) (.nil)) (.node (gO (tree20 P) 224) (.node (⟨.type "function", none, .func (fnG (clsS 30 1) "told" "Result.told" 3 (.none) (.none) (.str "gemrows.main" 701) (.ref 351) 0), #[]⟩) (.nil) (.nil)) (.nil)))) (.node (gO (tree20 P) 48) (.node (gO (tree20 P) 80) (.node (gO (tree20 P) 144) (.node (⟨.type "tuple", none, .seq [].toArray 0, #[]⟩) (.nil) (.nil)) (.nil)) (.node (gO (tree20 P) 208) (.node (⟨.none, none, .fields [.int 212 0, .int 4 0, .ref 344, .int 218 0, .int 4 0, .ref 351].toArray, #[]⟩) (.nil) (.nil)) (.nil))) (.node (gO (tree20 P) 112) (.node (gO (tree20 P) 176) (.node (⟨.type "function", none, .func (fnG (topS 24) "show_pair" "show_pair" 3 (.none) (.none) (.str "gemrows.things" 194) (.ref 303) 0), #[]⟩) (.nil) (.nil)) (.nil)) (.node (gO (tree20 P) 240) (.node (⟨.none, none, .fields [].toArray, #[]⟩) (.nil) (.nil)) (.nil))))) (.node (gO (tree20 P) 24) (.node (gO (tree20 P) 40) (.node (gO (tree20 P) 72) (.node (gO (tree20 P) 136) (.node (gO (tree20 P) 264) (.nil) (.nil)) (.nil)) (.node (gO (tree20 P) 200) (.node (⟨.type "tuple", none, .seq [].toArray 0, #[]⟩) (.nil) (.nil)) (.nil))) (.node (gO (tree20 P) 104) (.node (gO (tree20 P) 168) (.node (⟨.type "code", none, .fields [.str "show_symbol" 648, .str "show_symbol" 649, .str "/claim/cut.py" 650, .int 161 0, .int 1 0, .int 0 0, .int 0 0, .int 3 0, .ref 291, .bool true, .int 181 0, .ref 292, .none, .ref 293, .ref 294, .ref 295, .int 652 0, .int 161 0, .str "/claim/cut.py" 653].toArray, #[]⟩) (.nil) (.nil)) (.nil)) (.node (gO (tree20 P) 232) (.node (⟨.type "tuple", none, .seq [].toArray 0, #[]⟩) (.nil) (.nil)) (.nil)))) (.node (gO (tree20 P) 56) (.node (gO (tree20 P) 88) (.node (gO (tree20 P) 152) (.node (⟨.none, none, .fields [].toArray, #[]⟩) (.nil) (.nil)) (.nil)) (.node (gO (tree20 P) 216) (.node (⟨.type "code", none, .fields [.str "__init__" 715, .str "Result.__init__" 716, .str "/claim/cut.py" 717, .int 212 0, .int 5 0, .int 0 0, .int 0 0, .int 3 0, .ref 339, .bool true, .int 181 0, .ref 340, .none, .ref 341, .ref 342, .ref 343, .int 723 0, .int 212 0, .str "/claim/cut.py" 724].toArray, #[]⟩) (.nil) (.nil)) (.nil))) (.node (gO (tree20 P) 120) (.node (gO (tree20 P) 184) (.node (⟨.type "tuple", none, .seq [].toArray 0, #[]⟩) (.nil) (.nil)) (.nil)) (.node (gO (tree20 P) 248) (.nil) (.nil)))))) (.node (⟨.none, none, .fields [.int 1 0, .int 0 0, .ref 20, .int 8 0, .int 0 0, .ref 29, .int 17 0, .int 0 0, .ref 50, .int 22 0, .int 0 0, .ref 70, .int 27 0, .int 0 0, .ref 90, .int 47 0, .int 0 0, .ref 128, .int 54 0, .int 0 0, .ref 148, .int 67 0, .int 0 0, .ref 169, .int 73 0, .int 0 0, .ref 189, .int 81 0, .int 0 0, .ref 209, .int 99 0, .int 0 0, .ref 236, .int 107 0, .int 0 0, .ref 243, .int 112 0, .int 0 0, .ref 249, .int 123 0, .int 0 0, .ref 256, .int 130 0, .int 0 0, .ref 263, .int 132 0, .int 0 0, .ref 270, .int 140 0, .int 0 0, .ref 277, .int 148 0, .int 0 0, .ref 284, .int 158 0, .int 0 0, .ref 289, .int 161 0, .int 0 0, .ref 296, .int 163 0, .int 0 0, .ref 303, .int 167 0, .int 0 0, .ref 310, .int 171 0, .int 0 0, .ref 315, .int 192 0, .int 0 0, .ref 322, .int 198 0, .int 0 0, .ref 330, .int 210 0, .int 0 0, .ref 337, .int 220 0, .int 0 0, .ref 365, .int 225 0, .int 0 0, .ref 372].toArray, #[]⟩) (.node (gO (tree20 P) 20) (.node (gO (tree20 P) 36) (.node (gO (tree20 P) 68) (.node (gO (tree20 P) 132) (.node (gO (tree20 P) 260) (.nil) (.nil)) (.nil)) (.node (gO (tree20 P) 196) (.node (⟨.type "tuple", none, .seq [.int 6 691].toArray 0, #[]⟩) (.nil) (.nil)) (.nil))) (.node (gO (tree20 P) 100) (.node (gO (tree20 P) 164) (.node (⟨.none, none, .fields [].toArray, #[]⟩) (.nil) (.nil)) (.nil)) (.node (gO (tree20 P) 228) (.node (⟨.type "getset_descriptor", none, .fields [.str "__dict__" 738, .ref 355, .builtin "function.__dict__", .builtin "function.__dict__#set"].toArray, #[]⟩) (.nil) (.nil)) (.nil)))) (.node (gO (tree20 P) 52) (.node (gO (tree20 P) 84) (.node (gO (tree20 P) 148) (.node (⟨.none, none, .func (fnG (topS 20) "full_name" "full_name" 0 (.none) (.none) (.none) (.none) 0), #[]⟩) (.nil) (.nil)) (.nil)) (.node (gO (tree20 P) 212) (.node (⟨.none, none, .fields [].toArray, #[]⟩) (.nil) (.nil)) (.nil))) (.node (gO (tree20 P) 116) (.node (gO (tree20 P) 180) (.node (⟨.type "tuple", none, .seq [].toArray 0, #[]⟩) (.nil) (.nil)) (.nil)) (.node (gO (tree20 P) 244) (.node (⟨.type "code", none, .fields [.str "result_of" 753, .str "result_of" 754, .str "/claim/cut.py" 755, .int 225 0, .int 3 0, .int 0 0, .int 0 0, .int 3 0, .ref 367, .bool true, .int 181 0, .ref 368, .none, .ref 369, .ref 370, .ref 371, .int 760 0, .int 225 0, .str "/claim/cut.py" 761].toArray, #[]⟩) (.nil) (.nil)) (.nil))))) (.node (gO (tree20 P) 28) (.node (gO (tree20 P) 44) (.node (gO (tree20 P) 76) (.node (gO (tree20 P) 140) (.node (gO (tree20 P) 268) (.nil) (.nil)) (.nil)) (.node (gO (tree20 P) 204) (.node (⟨.type "tuple", none, .seq [].toArray 0, #[]⟩) (.nil) (.nil)) (.nil))) (.node (gO (tree20 P) 108) (.node (gO (tree20 P) 172) (.node (⟨.type "tuple", none, .seq [.str "key" 658, .str "value" 659, .str "deep" 660].toArray 0, #[]⟩) (.nil) (.nil)) (.nil)) (.node (gO (tree20 P) 236) (.node (⟨.none, none, .func (fnG (topS 31) "show_raised" "show_raised" 0 (.none) (.none) (.none) (.none) 0), #[]⟩) (.nil) (.nil)) (.nil)))) (.node (gO (tree20 P) 60) (.node (gO (tree20 P) 92) (.node (gO (tree20 P) 156) (.node (⟨.type "code", none, .fields [.str "show_letter" 632, .str "show_letter" 633, .str "/claim/cut.py" 634, .int 148 0, .int 2 0, .int 0 0, .int 0 0, .int 3 0, .ref 279, .bool true, .int 181 0, .ref 280, .none, .ref 281, .ref 282, .ref 283, .int 639 0, .int 148 0, .str "/claim/cut.py" 640].toArray, #[]⟩) (.nil) (.nil)) (.nil)) (.node (gO (tree20 P) 220) (.node (⟨.type "tuple", none, .seq [.str "self" 729].toArray 0, #[]⟩) (.nil) (.nil)) (.nil))) (.node (gO (tree20 P) 124) (.node (gO (tree20 P) 188) (.node (⟨.type "function", none, .func (fnG (topS 26) "show_thing" "show_thing" 3 (.none) (.none) (.str "gemrows.things" 194) (.ref 315) 0), #[]⟩) (.nil) (.nil)) (.nil)) (.node (gO (tree20 P) 252) (.nil) (.nil))))))) (.node (boot_o_6 P) (.node (boot_o_10 P) (.node (gO (tree20 P) 18) (.node (gO (tree20 P) 34) (.node (gO (tree20 P) 66) (.node (gO (tree20 P) 130) (.node (gO (tree20 P) 258) (.nil) (.nil)) (.nil)) (.node (gO (tree20 P) 194) (.node (⟨.type "code", none, .fields [.str "show_error" 680, .str "show_error" 681, .str "/claim/cut.py" 682, .int 192 0, .int 3 0, .int 0 0, .int 0 0, .int 3 0, .ref 317, .bool true, .int 181 0, .ref 318, .none, .ref 319, .ref 320, .ref 321, .int 688 0, .int 192 0, .str "/claim/cut.py" 689].toArray, #[]⟩) (.nil) (.nil)) (.nil))) (.node (gO (tree20 P) 98) (.node (gO (tree20 P) 162) (.node (⟨.type "function", none, .func (fnG (topS 22) "show_text" "show_text" 3 (.none) (.none) (.str "gemrows.things" 194) (.ref 289) 0), #[]⟩) (.nil) (.nil)) (.nil)) (.node (gO (tree20 P) 226) (.node (kdict P (.type "dict") none (([("__module__", 710, .str "gemrows.main" 701), ("__firstlineno__", 714, .int 210 713), ("__init__", 725, .ref 345), ("told", 732, .ref 352), ("__static_attributes__", 737, .ref 353), ("__dict__", 739, .ref 356), ("__weakref__", 741, .ref 357), ("__doc__", 742, .none)] : List DRow)) 4 #[]) (.nil) (.nil)) (.nil)))) (.node (gO (tree20 P) 50) (.node (gO (tree20 P) 82) (.node (gO (tree20 P) 146) (.node (⟨.type "tuple", none, .seq [.str "module" 628].toArray 0, #[]⟩) (.nil) (.nil)) (.nil)) (.node (gO (tree20 P) 210) (.node (⟨.type "frame", none, .plain, [some (.ref 337), some (.ref 3), some (.ref 334), none, some (.str "gemrows.main" 701), none, some (.ref 0)].toArray⟩) (.nil) (.nil)) (.nil))) (.node (gO (tree20 P) 114) (.node (gO (tree20 P) 178) (.node (⟨.none, none, .fields [].toArray, #[]⟩) (.nil) (.nil)) (.nil)) (.node (gO (tree20 P) 242) (.node (⟨.type "tuple", none, .seq [].toArray 0, #[]⟩) (.nil) (.nil)) (.nil))))) (.node (gO (tree20 P) 26) (.node (gO (tree20 P) 42) (.node (gO (tree20 P) 74) (.node (gO (tree20 P) 138) (.node (gO (tree20 P) 266) (.nil) (.nil)) (.nil)) (.node (gO (tree20 P) 202) (.node (⟨.type "code", none, .fields [.str "show" 692, .str "show" 693, .str "/claim/cut.py" 694, .int 198 0, .int 2 0, .int 0 0, .int 0 0, .int 3 0, .ref 325, .bool true, .int 181 0, .ref 326, .none, .ref 327, .ref 328, .ref 329, .int 698 0, .int 198 0, .str "/claim/cut.py" 699].toArray, #[]⟩) (.nil) (.nil)) (.nil))) (.node (gO (tree20 P) 106) (.node (gO (tree20 P) 170) (.node (⟨.type "tuple", none, .seq [].toArray 0, #[]⟩) (.nil) (.nil)) (.nil)) (.node (gO (tree20 P) 234) (.node (⟨.type "tuple", none, .seq [.str "thing" 748, .str "name" 749].toArray 0, #[]⟩) (.nil) (.nil)) (.nil)))) (.node (gO (tree20 P) 58) (.node (gO (tree20 P) 90) (.node (gO (tree20 P) 154) (.node (⟨.type "tuple", none, .seq [].toArray 0, #[]⟩) (.nil) (.nil)) (.nil)) (.node (gO (tree20 P) 218) (.node (⟨.type "tuple", none, .seq [].toArray 0, #[]⟩) (.nil) (.nil)) (.nil))) (.node (gO (tree20 P) 122) (.node (gO (tree20 P) 186) (.node (⟨.none, none, .func (fnG (topS 26) "show_thing" "show_thing" 0 (.none) (.none) (.none) (.none) 0), #[]⟩) (.nil) (.nil)) (.nil)) (.node (gO (tree20 P) 250) (.nil) (.nil)))))) (.node (o14) (.node (gO (tree20 P) 22) (.node (gO (tree20 P) 38) (.node (gO (tree20 P) 70) (.node (gO (tree20 P) 134) (.node (gO (tree20 P) 262) (.nil) (.nil)) (.nil)) (.node (gO (tree20 P) 198) (.node (⟨.none, none, .fields [].toArray, #[]⟩) (.nil) (.nil)) (.nil))) (.node (gO (tree20 P) 102) (.node (gO (tree20 P) 166) (.node (⟨.type "tuple", none, .seq [].toArray 0, #[]⟩) (.nil) (.nil)) (.nil)) (.node (gO (tree20 P) 230) (.node (⟨.type "super", none, .fields [.ref 355, .ref 355, .ref 355].toArray, #[]⟩) (.nil) (.nil)) (.nil)))) (.node (gO (tree20 P) 54) (.node (gO (tree20 P) 86) (.node (gO (tree20 P) 150) (.node (⟨.type "function", none, .func (fnG (topS 20) "full_name" "full_name" 3 (.none) (.none) (.str "gemrows.things" 194) (.ref 277) 0), #[]⟩) (.nil) (.nil)) (.nil)) (.node (gO (tree20 P) 214) (.node (⟨.type "tuple", none, .seq [].toArray 0, #[]⟩) (.nil) (.nil)) (.nil))) (.node (gO (tree20 P) 118) (.node (gO (tree20 P) 182) (.node (⟨.type "code", none, .fields [.str "show_range" 664, .str "show_range" 665, .str "/claim/cut.py" 666, .int 167 0, .int 2 0, .int 0 0, .int 0 0, .int 3 0, .ref 305, .bool true, .int 181 0, .ref 306, .none, .ref 307, .ref 308, .ref 309, .int 671 0, .int 167 0, .str "/claim/cut.py" 672].toArray, #[]⟩) (.nil) (.nil)) (.nil)) (.node (gO (tree20 P) 246) (.nil) (.nil))))) (.node (gO (tree20 P) 30) (.node (gO (tree20 P) 46) (.node (gO (tree20 P) 78) (.node (gO (tree20 P) 142) (.node (gO (tree20 P) 270) (.nil) (.nil)) (.nil)) (.node (gO (tree20 P) 206) (.node (kdict P (.type "dict") none (([("__module__", 710, .str "gemrows.main" 701), ("__qualname__", 712, .str "Result" 711), ("__firstlineno__", 714, .int 210 713), ("__init__", 725, .ref 345), ("told", 732, .ref 352), ("__static_attributes__", 737, .ref 353)] : List DRow)) 6 #[]) (.nil) (.nil)) (.nil))) (.node (gO (tree20 P) 110) (.node (gO (tree20 P) 174) (.node (⟨.none, none, .func (fnG (topS 24) "show_pair" "show_pair" 0 (.none) (.none) (.none) (.none) 0), #[]⟩) (.nil) (.nil)) (.nil)) (.node (gO (tree20 P) 238) (.node (⟨.type "function", none, .func (fnG (topS 31) "show_raised" "show_raised" 3 (.none) (.none) (.str "gemrows.main" 701) (.ref 365) 0), #[]⟩) (.nil) (.nil)) (.nil)))) (.node (gO (tree20 P) 62) (.node (gO (tree20 P) 94) (.node (gO (tree20 P) 158) (.node (⟨.type "tuple", none, .seq [].toArray 0, #[]⟩) (.nil) (.nil)) (.nil)) (.node (gO (tree20 P) 222) (.node (⟨.none, none, .func (fnG (clsS 30 1) "told" "Result.told" 0 (.none) (.none) (.none) (.none) 0), #[]⟩) (.nil) (.nil)) (.nil))) (.node (gO (tree20 P) 126) (.node (gO (tree20 P) 190) (.node (⟨.none, none, .fields [].toArray, #[]⟩) (.nil) (.nil)) (.nil)) (.node (gO (tree20 P) 254) (.nil) (.nil))))))))
def st33 (P : Params) (os : OsState) : SharedT := ⟨tree33 P, 374, {}, #[], {}, 763, os⟩
def pos33 : Pos := ⟨225, 0, 229, 64⟩
def tree45 (P : Params) : BT := .node (boot_o_0 P) (.node (boot_o_1 P) (.node (kdict P (.type "dict") none (([("__name__", 165, .str "gemrows.world" 861), ("__doc__", 166, .none), ("__package__", 167, .none), ("__loader__", 168, .builtin "__main__.__loader__#opaque"), ("__spec__", 169, .none), ("__annotations__", 170, .ref 6), ("__builtins__", 171, .ref 4), ("__file__", 173, .str "/claim/cut.py" 172), ("__cached__", 174, .none), ("_wall", 193, .ref 21), ("SIMPLE_ESCAPES", 229, .ref 22), ("OPERATORS", 257, .ref 23), ("DEEPEST_KEY", 259, .int 12 258), ("Thing", 294, .ref 40), ("Text", 322, .ref 62), ("ListThing", 349, .ref 82), ("TableThing", 401, .ref 120), ("RangeThing", 432, .ref 140), ("ProcThing", 475, .ref 161), ("ErrorThing", 503, .ref 181)] : List DRow) ++ ([("FiberThing", 533, .ref 201), ("ModuleThing", 580, .ref 228), ("sort_of", 587, .ref 237), ("same", 596, .ref 244), ("code_of", 602, .ref 250), ("is_word", 610, .ref 257), ("is_label", 617, .ref 264), ("is_plain_symbol", 624, .ref 271), ("full_name", 631, .ref 278), ("show_letter", 641, .ref 285), ("show_text", 647, .ref 290), ("show_symbol", 654, .ref 297), ("show_pair", 663, .ref 304), ("show_range", 673, .ref 311), ("show_thing", 679, .ref 316), ("show_error", 690, .ref 323), ("show", 700, .ref 331), ("Result", 744, .ref 355), ("show_raised", 752, .ref 366), ("result_of", 762, .ref 373)] : List DRow) ++ ([("GemError", 792, .ref 391), ("StepsOver", 817, .ref 411), ("Raised", 842, .ref 430), ("raise_version", 851, .ref 439), ("own_module", 860, .ref 446), ("MODULES", 866, .ref 447), ("BUILTINS", 983, .ref 448), ("MIXED", 1005, .ref 451), ("UNMADE", 1012, .ref 459)] : List DRow)) 49 #[]) (.node (boot_o_7 P) (.node (gO (tree20 P) 15) (.node (gO (tree20 P) 31) (.node (gO (tree20 P) 63) (.node (gO (tree20 P) 127) (.node (gO (tree20 P) 255) (.nil) (.nil)) (.node (⟨.none, none, .fields [].toArray, #[]⟩) (.nil) (.nil))) (.node (gO (tree20 P) 191) (.node (gO (tree33 P) 319) (.nil) (.nil)) (.node (⟨.type "tuple", none, .seq [.str "Kernel" 863, .str "Comparable" 864, .str "Enumerable" 865].toArray 0, #[]⟩) (.nil) (.nil)))) (.node (gO (tree20 P) 95) (.node (gO (tree20 P) 159) (.node (gO (tree33 P) 287) (.nil) (.nil)) (.node (⟨.type "builtin_function_or_method", none, .fields [.builtin "type.__prepare__", .type "type"].toArray, #[]⟩) (.nil) (.nil))) (.node (gO (tree20 P) 223) (.node (gO (tree33 P) 351) (.nil) (.nil)) (.nil)))) (.node (gO (tree20 P) 47) (.node (gO (tree20 P) 79) (.node (gO (tree20 P) 143) (.node (gO (tree20 P) 271) (.nil) (.nil)) (.node (⟨.none, none, .fields [.int 238 0, .int 4 0, .ref 407].toArray, #[]⟩) (.nil) (.nil))) (.node (gO (tree20 P) 207) (.node (gO (tree33 P) 335) (.nil) (.nil)) (.nil))) (.node (gO (tree20 P) 111) (.node (gO (tree20 P) 175) (.node (gO (tree33 P) 303) (.nil) (.nil)) (.node (⟨.type "super", none, .fields [.ref 430, .ref 430, .ref 430].toArray, #[]⟩) (.nil) (.nil))) (.node (gO (tree20 P) 239) (.node (gO (tree33 P) 367) (.nil) (.nil)) (.nil))))) (.node (gO (tree20 P) 23) (.node (gO (tree20 P) 39) (.node (gO (tree20 P) 71) (.node (gO (tree20 P) 135) (.node (gO (tree20 P) 263) (.nil) (.nil)) (.node (⟨.type "type", none, .cls ({ name := Str.ofString "GemError", bases := [Value.type "ValueError"], mro := [Value.ref 391, Value.type "ValueError", Value.type "Exception", Value.type "BaseException", Value.type "object"], ns := 390, qualname := Str.ofString "GemError", subclasses := [Value.ref 411, Value.ref 430] }), [some (.ref 374), none, some (.str "GemError" 765), some (.str "GemError" 773), some (.builtin "ValueError.__new__"), some (.bool true)].toArray⟩) (.nil) (.nil))) (.node (gO (tree20 P) 199) (.node (gO (tree33 P) 327) (.nil) (.nil)) (.node (⟨.type "tuple", none, .seq [.str "Comparable" 991].toArray 0, #[]⟩) (.nil) (.nil)))) (.node (gO (tree20 P) 103) (.node (gO (tree20 P) 167) (.node (gO (tree33 P) 295) (.nil) (.nil)) (.node (⟨.type "tuple", none, .seq [.str "self" 833, .str "thing" 834].toArray 0, #[]⟩) (.nil) (.nil))) (.node (gO (tree20 P) 231) (.node (gO (tree33 P) 359) (.nil) (.nil)) (.nil)))) (.node (gO (tree20 P) 55) (.node (gO (tree20 P) 87) (.node (gO (tree20 P) 151) (.node (gO (tree33 P) 279) (.nil) (.nil)) (.node (⟨.type "code", none, .fields [.str "__init__" 805, .str "StepsOver.__init__" 806, .str "/claim/cut.py" 807, .int 238 0, .int 2 0, .int 0 0, .int 0 0, .int 3 0, .ref 402, .bool true, .int 181 0, .ref 403, .none, .ref 404, .ref 405, .ref 406, .int 810 0, .int 238 0, .str "/claim/cut.py" 811].toArray, #[]⟩) (.nil) (.nil))) (.node (gO (tree20 P) 215) (.node (gO (tree33 P) 343) (.nil) (.nil)) (.nil))) (.node (gO (tree20 P) 119) (.node (gO (tree20 P) 183) (.node (gO (tree33 P) 311) (.nil) (.nil)) (.node (⟨.type "function", none, .func (fnG (topS 38) "raise_version" "raise_version" 3 (.none) (.none) (.str "gemrows.lines" 843) (.ref 438) 0), #[]⟩) (.nil) (.nil))) (.node (gO (tree20 P) 247) (.node (⟨.type "builtin_function_or_method", none, .fields [.builtin "type.__prepare__", .type "type"].toArray, #[]⟩) (.nil) (.nil)) (.nil)))))) (.node (o11) (.node (gO (tree20 P) 19) (.node (gO (tree20 P) 35) (.node (gO (tree20 P) 67) (.node (gO (tree20 P) 131) (.node (gO (tree20 P) 259) (.nil) (.nil)) (.node (⟨.type "code", none, .fields [.str "__init__" 778, .str "GemError.__init__" 779, .str "/claim/cut.py" 780, .int 233 0, .int 2 0, .int 0 0, .int 0 0, .int 3 0, .ref 382, .bool true, .int 181 0, .ref 383, .none, .ref 384, .ref 385, .ref 386, .int 783 0, .int 233 0, .str "/claim/cut.py" 784].toArray, #[]⟩) (.nil) (.nil))) (.node (gO (tree20 P) 195) (.node (gO (tree33 P) 323) (.nil) (.nil)) (.node (kdict P (.type "dict") none (([("Object", 984, .ref 452), ("Numeric", 986, .ref 453), ("String", 988, .ref 454), ("Symbol", 990, .ref 455), ("Array", 992, .ref 456), ("Hash", 994, .ref 457), ("Range", 996, .ref 458)] : List DRow)) 7 #[]) (.nil) (.nil)))) (.node (gO (tree20 P) 99) (.node (gO (tree20 P) 163) (.node (gO (tree33 P) 291) (.nil) (.nil)) (.node (⟨.type "code", none, .fields [.str "Raised" 820, .str "Raised" 821, .str "/claim/cut.py" 822, .int 241 0, .int 0 0, .int 0 0, .int 0 0, .int 0 0, .ref 417, .bool false, .int 181 0, .ref 418, .none, .none, .none, .none, .int 823 0, .int 241 0, .str "/claim/cut.py" 824].toArray, #[]⟩) (.nil) (.nil))) (.node (gO (tree20 P) 227) (.node (gO (tree33 P) 355) (.nil) (.nil)) (.nil)))) (.node (gO (tree20 P) 51) (.node (gO (tree20 P) 83) (.node (gO (tree20 P) 147) (.node (gO (tree33 P) 275) (.nil) (.nil)) (.node (⟨.none, none, .fields [].toArray, #[]⟩) (.nil) (.nil))) (.node (gO (tree20 P) 211) (.node (gO (tree33 P) 339) (.nil) (.nil)) (.nil))) (.node (gO (tree20 P) 115) (.node (gO (tree20 P) 179) (.node (gO (tree33 P) 307) (.nil) (.nil)) (.node (⟨.type "tuple", none, .seq [.str "world" 848].toArray 0, #[]⟩) (.nil) (.nil))) (.node (gO (tree20 P) 243) (.node (gO (tree33 P) 371) (.nil) (.nil)) (.nil))))) (.node (gO (tree20 P) 27) (.node (gO (tree20 P) 43) (.node (gO (tree20 P) 75) (.node (gO (tree20 P) 139) (.node (gO (tree20 P) 267) (.nil) (.nil)) (.node (⟨.type "tuple", none, .seq [.ref 391].toArray 0, #[]⟩) (.nil) (.nil))) (.node (gO (tree20 P) 203) (.node (gO (tree33 P) 331) (.nil) (.nil)) (.node (⟨.type "tuple", none, .seq [.str "NilClass" 1006, .str "TrueClass" 1007, .str "FalseClass" 1008, .str "Integer" 1009, .str "Numeric" 1010, .str "Symbol" 1011].toArray 0, #[]⟩) (.nil) (.nil)))) (.node (gO (tree20 P) 107) (.node (gO (tree20 P) 171) (.node (gO (tree33 P) 299) (.nil) (.nil)) (.node (⟨.type "function", none, .func (fnG (clsS 36 0) "__init__" "Raised.__init__" 3 (.none) (.none) (.str "gemrows.errors" 763) (.ref 426) 0), #[]⟩) (.nil) (.nil))) (.node (gO (tree20 P) 235) (.node (gO (tree33 P) 363) (.nil) (.nil)) (.nil)))) (.node (gO (tree20 P) 59) (.node (gO (tree20 P) 91) (.node (gO (tree20 P) 155) (.node (gO (tree33 P) 283) (.nil) (.nil)) (.node (⟨.type "type", none, .cls ({ name := Str.ofString "StepsOver", bases := [Value.ref 391], mro := [Value.ref 411, Value.ref 391, Value.type "ValueError", Value.type "Exception", Value.type "BaseException", Value.type "object"], ns := 410, qualname := Str.ofString "StepsOver" }), [some (.ref 395), none, some (.str "StepsOver" 793), some (.str "StepsOver" 801), some (.builtin "ValueError.__new__"), some (.bool true)].toArray⟩) (.nil) (.nil))) (.node (gO (tree20 P) 219) (.node (gO (tree33 P) 347) (.nil) (.nil)) (.nil))) (.node (gO (tree20 P) 123) (.node (gO (tree20 P) 187) (.node (gO (tree33 P) 315) (.nil) (.nil)) (.node (⟨.type "tuple", none, .seq [].toArray 0, #[]⟩) (.nil) (.nil))) (.node (gO (tree20 P) 251) (.node (⟨.type "code", none, .fields [.str "GemError" 767, .str "GemError" 768, .str "/claim/cut.py" 769, .int 231 0, .int 0 0, .int 0 0, .int 0 0, .int 0 0, .ref 377, .bool false, .int 181 0, .ref 378, .none, .none, .none, .none, .int 770 0, .int 231 0, .str "/claim/cut.py" 771].toArray, #[]⟩) (.nil) (.nil)) (.nil))))))) (.node (boot_o_5 P) (.node (boot_o_9 P) (.node (gO (tree20 P) 17) (.node (gO (tree20 P) 33) (.node (gO (tree20 P) 65) (.node (gO (tree20 P) 129) (.node (gO (tree20 P) 257) (.nil) (.nil)) (.node (⟨.type "tuple", none, .seq [].toArray 0, #[]⟩) (.nil) (.nil))) (.node (gO (tree20 P) 193) (.node (gO (tree33 P) 321) (.nil) (.nil)) (.node (kdict P (.type "dict") none (([("Proc", 914, .str "Object" 915), ("Fiber", 917, .str "Object" 918), ("Exception", 920, .str "Object" 921), ("ScriptError", 923, .str "Exception" 924), ("NotImplementedError", 926, .str "ScriptError" 927), ("SystemStackError", 929, .str "Exception" 930), ("StandardError", 932, .str "Exception" 933), ("ArgumentError", 935, .str "StandardError" 936), ("UncaughtThrowError", 938, .str "ArgumentError" 939), ("FiberError", 941, .str "StandardError" 942), ("IndexError", 944, .str "StandardError" 945), ("KeyError", 947, .str "IndexError" 948), ("StopIteration", 950, .str "IndexError" 951), ("LocalJumpError", 953, .str "StandardError" 954), ("NameError", 956, .str "StandardError" 957), ("NoMethodError", 959, .str "NameError" 960), ("NoMatchingPatternError", 962, .str "StandardError" 963)] : List DRow)) 17 #[]) (.nil) (.nil)))) (.node (gO (tree20 P) 97) (.node (gO (tree20 P) 161) (.node (gO (tree33 P) 289) (.nil) (.nil)) (.node (⟨.type "tuple", none, .seq [].toArray 0, #[]⟩) (.nil) (.nil))) (.node (gO (tree20 P) 225) (.node (gO (tree33 P) 353) (.nil) (.nil)) (.nil)))) (.node (gO (tree20 P) 49) (.node (gO (tree20 P) 81) (.node (gO (tree20 P) 145) (.node (gO (tree33 P) 273) (.nil) (.nil)) (.node (⟨.type "frame", none, .plain, [some (.ref 400), some (.ref 3), some (.ref 397), none, some (.str "gemrows.errors" 763), none, some (.ref 0)].toArray⟩) (.nil) (.nil))) (.node (gO (tree20 P) 209) (.node (gO (tree33 P) 337) (.nil) (.nil)) (.nil))) (.node (gO (tree20 P) 113) (.node (gO (tree20 P) 177) (.node (gO (tree33 P) 305) (.nil) (.nil)) (.node (⟨.type "tuple", none, .seq [].toArray 0, #[]⟩) (.nil) (.nil))) (.node (gO (tree20 P) 241) (.node (gO (tree33 P) 369) (.nil) (.nil)) (.nil))))) (.node (gO (tree20 P) 25) (.node (gO (tree20 P) 41) (.node (gO (tree20 P) 73) (.node (gO (tree20 P) 137) (.node (gO (tree20 P) 265) (.nil) (.nil)) (.node (⟨.type "super", none, .fields [.ref 391, .ref 391, .ref 391].toArray, #[]⟩) (.nil) (.nil))) (.node (gO (tree20 P) 201) (.node (gO (tree33 P) 329) (.nil) (.nil)) (.node (⟨.type "tuple", none, .seq [.str "Enumerable" 995].toArray 0, #[]⟩) (.nil) (.nil)))) (.node (gO (tree20 P) 105) (.node (gO (tree20 P) 169) (.node (gO (tree33 P) 297) (.nil) (.nil)) (.node (⟨.none, none, .func (fnG (clsS 36 0) "__init__" "Raised.__init__" 0 (.none) (.none) (.none) (.none) 0), #[]⟩) (.nil) (.nil))) (.node (gO (tree20 P) 233) (.node (gO (tree33 P) 361) (.nil) (.nil)) (.nil)))) (.node (gO (tree20 P) 57) (.node (gO (tree20 P) 89) (.node (gO (tree20 P) 153) (.node (gO (tree33 P) 281) (.nil) (.nil)) (.node (⟨.type "tuple", none, .seq [.str "most" 813].toArray 0, #[]⟩) (.nil) (.nil))) (.node (gO (tree20 P) 217) (.node (gO (tree33 P) 345) (.nil) (.nil)) (.nil))) (.node (gO (tree20 P) 121) (.node (gO (tree20 P) 185) (.node (gO (tree33 P) 313) (.nil) (.nil)) (.node (⟨.none, none, .fields [].toArray, #[]⟩) (.nil) (.nil))) (.node (gO (tree20 P) 249) (.node (⟨.type "tuple", none, .seq [].toArray 0, #[]⟩) (.nil) (.nil)) (.nil)))))) (.node (o13) (.node (gO (tree20 P) 21) (.node (gO (tree20 P) 37) (.node (gO (tree20 P) 69) (.node (gO (tree20 P) 133) (.node (gO (tree20 P) 261) (.nil) (.nil)) (.node (⟨.type "tuple", none, .seq [.str "reason" 786].toArray 0, #[]⟩) (.nil) (.nil))) (.node (gO (tree20 P) 197) (.node (gO (tree33 P) 325) (.nil) (.nil)) (.node (⟨.type "tuple", none, .seq [.str "Comparable" 987].toArray 0, #[]⟩) (.nil) (.nil)))) (.node (gO (tree20 P) 101) (.node (gO (tree20 P) 165) (.node (gO (tree33 P) 293) (.nil) (.nil)) (.node (⟨.type "tuple", none, .seq [].toArray 0, #[]⟩) (.nil) (.nil))) (.node (gO (tree20 P) 229) (.node (gO (tree33 P) 357) (.nil) (.nil)) (.nil)))) (.node (gO (tree20 P) 53) (.node (gO (tree20 P) 85) (.node (gO (tree20 P) 149) (.node (gO (tree33 P) 277) (.nil) (.nil)) (.node (⟨.type "tuple", none, .seq [].toArray 0, #[]⟩) (.nil) (.nil))) (.node (gO (tree20 P) 213) (.node (gO (tree33 P) 341) (.nil) (.nil)) (.nil))) (.node (gO (tree20 P) 117) (.node (gO (tree20 P) 181) (.node (gO (tree33 P) 309) (.nil) (.nil)) (.node (⟨.none, none, .func (fnG (topS 38) "raise_version" "raise_version" 0 (.none) (.none) (.none) (.none) 0), #[]⟩) (.nil) (.nil))) (.node (gO (tree20 P) 245) (.node (gO (tree33 P) 373) (.nil) (.nil)) (.nil))))) (.node (gO (tree20 P) 29) (.node (gO (tree20 P) 45) (.node (gO (tree20 P) 77) (.node (gO (tree20 P) 141) (.node (gO (tree20 P) 269) (.nil) (.nil)) (.node (kdict P (.type "dict") none (([("__module__", 800, .str "gemrows.errors" 763), ("__qualname__", 802, .str "StepsOver" 801), ("__firstlineno__", 804, .int 236 803), ("__init__", 812, .ref 408), ("__static_attributes__", 814, .ref 409)] : List DRow)) 5 #[]) (.nil) (.nil))) (.node (gO (tree20 P) 205) (.node (gO (tree33 P) 333) (.nil) (.nil)) (.nil))) (.node (gO (tree20 P) 109) (.node (gO (tree20 P) 173) (.node (gO (tree33 P) 301) (.nil) (.nil)) (.node (kdict P (.type "dict") none (([("__module__", 825, .str "gemrows.errors" 763), ("__firstlineno__", 829, .int 241 828), ("__init__", 837, .ref 427), ("__static_attributes__", 839, .ref 428), ("__doc__", 840, .none)] : List DRow)) 2 #[]) (.nil) (.nil))) (.node (gO (tree20 P) 237) (.node (gO (tree33 P) 365) (.nil) (.nil)) (.nil)))) (.node (gO (tree20 P) 61) (.node (gO (tree20 P) 93) (.node (gO (tree20 P) 157) (.node (gO (tree33 P) 285) (.nil) (.nil)) (.node (⟨.type "builtin_function_or_method", none, .fields [.builtin "object.__init_subclass__", .ref 411].toArray, #[]⟩) (.nil) (.nil))) (.node (gO (tree20 P) 221) (.node (gO (tree33 P) 349) (.nil) (.nil)) (.nil))) (.node (gO (tree20 P) 125) (.node (gO (tree20 P) 189) (.node (gO (tree33 P) 317) (.nil) (.nil)) (.node (⟨.type "code", none, .fields [.str "own_module" 852, .str "own_module" 853, .str "/claim/cut.py" 854, .int 249 0, .int 2 0, .int 0 0, .int 0 0, .int 3 0, .ref 440, .bool true, .int 181 0, .ref 441, .none, .ref 442, .ref 443, .ref 444, .int 858 0, .int 249 0, .str "/claim/cut.py" 859].toArray, #[]⟩) (.nil) (.nil))) (.node (gO (tree20 P) 253) (.node (⟨.type "tuple", none, .seq [.str "" 777].toArray 0, #[]⟩) (.nil) (.nil)) (.nil)))))))) (.node (boot_o_2 P) (.node (boot_o_4 P) (.node (boot_o_8 P) (.node (gO (tree20 P) 16) (.node (gO (tree20 P) 32) (.node (gO (tree20 P) 64) (.node (gO (tree20 P) 128) (.node (gO (tree20 P) 256) (.nil) (.nil)) (.node (⟨.type "tuple", none, .seq [.str "self" 781, .str "reason" 782].toArray 0, #[]⟩) (.nil) (.nil))) (.node (gO (tree20 P) 192) (.node (gO (tree33 P) 320) (.nil) (.nil)) (.node (kdict P (.type "dict") none (([("BasicObject", 867, .none), ("Object", 869, .str "BasicObject" 870), ("Module", 872, .str "Object" 873), ("Class", 875, .str "Module" 876), ("Kernel", 878, .none), ("Comparable", 880, .none), ("Enumerable", 882, .none), ("NilClass", 884, .str "Object" 885), ("TrueClass", 887, .str "Object" 888), ("FalseClass", 890, .str "Object" 891), ("Numeric", 893, .str "Object" 894), ("Integer", 896, .str "Numeric" 897), ("String", 899, .str "Object" 900), ("Symbol", 902, .str "Object" 903), ("Array", 905, .str "Object" 906), ("Hash", 908, .str "Object" 909), ("Range", 911, .str "Object" 912), ("Proc", 914, .str "Object" 915), ("Fiber", 917, .str "Object" 918), ("Exception", 920, .str "Object" 921)] : List DRow) ++ ([("ScriptError", 923, .str "Exception" 924), ("NotImplementedError", 926, .str "ScriptError" 927), ("SystemStackError", 929, .str "Exception" 930), ("StandardError", 932, .str "Exception" 933), ("ArgumentError", 935, .str "StandardError" 936), ("UncaughtThrowError", 938, .str "ArgumentError" 939), ("FiberError", 941, .str "StandardError" 942), ("IndexError", 944, .str "StandardError" 945), ("KeyError", 947, .str "IndexError" 948), ("StopIteration", 950, .str "IndexError" 951), ("LocalJumpError", 953, .str "StandardError" 954), ("NameError", 956, .str "StandardError" 957), ("NoMethodError", 959, .str "NameError" 960), ("NoMatchingPatternError", 962, .str "StandardError" 963), ("NoMatchingPatternKeyError", 965, .str "NoMatchingPatternError" 966), ("RangeError", 967, .str "StandardError" 968), ("RuntimeError", 969, .str "StandardError" 970), ("FrozenError", 971, .str "RuntimeError" 972), ("TypeError", 973, .str "StandardError" 974), ("ZeroDivisionError", 975, .str "StandardError" 976)] : List DRow)) 40 #[]) (.nil) (.nil)))) (.node (gO (tree20 P) 96) (.node (gO (tree20 P) 160) (.node (gO (tree33 P) 288) (.nil) (.nil)) (.node (kdict P (.type "dict") none (([("__module__", 825, .str "gemrows.errors" 763), ("__qualname__", 827, .str "Raised" 826), ("__firstlineno__", 829, .int 241 828), ("__init__", 837, .ref 427), ("__static_attributes__", 839, .ref 428)] : List DRow)) 5 #[]) (.nil) (.nil))) (.node (gO (tree20 P) 224) (.node (gO (tree33 P) 352) (.nil) (.nil)) (.nil)))) (.node (gO (tree20 P) 48) (.node (gO (tree20 P) 80) (.node (gO (tree20 P) 144) (.node (gO (tree33 P) 272) (.nil) (.nil)) (.node (⟨.type "code", none, .fields [.str "StepsOver" 795, .str "StepsOver" 796, .str "/claim/cut.py" 797, .int 236 0, .int 0 0, .int 0 0, .int 0 0, .int 0 0, .ref 398, .bool false, .int 181 0, .ref 399, .none, .none, .none, .none, .int 798 0, .int 236 0, .str "/claim/cut.py" 799].toArray, #[]⟩) (.nil) (.nil))) (.node (gO (tree20 P) 208) (.node (gO (tree33 P) 336) (.nil) (.nil)) (.nil))) (.node (gO (tree20 P) 112) (.node (gO (tree20 P) 176) (.node (gO (tree33 P) 304) (.nil) (.nil)) (.node (⟨.type "builtin_function_or_method", none, .fields [.builtin "object.__init_subclass__", .ref 430].toArray, #[]⟩) (.nil) (.nil))) (.node (gO (tree20 P) 240) (.node (gO (tree33 P) 368) (.nil) (.nil)) (.nil))))) (.node (gO (tree20 P) 24) (.node (gO (tree20 P) 40) (.node (gO (tree20 P) 72) (.node (gO (tree20 P) 136) (.node (gO (tree20 P) 264) (.nil) (.nil)) (.node (⟨.type "getset_descriptor", none, .fields [.str "__weakref__" 788, .ref 391, .builtin "ExceptionGroup.__weakref__", .none].toArray, #[]⟩) (.nil) (.nil))) (.node (gO (tree20 P) 200) (.node (gO (tree33 P) 328) (.nil) (.nil)) (.node (⟨.type "tuple", none, .seq [.str "Enumerable" 993].toArray 0, #[]⟩) (.nil) (.nil)))) (.node (gO (tree20 P) 104) (.node (gO (tree20 P) 168) (.node (gO (tree33 P) 296) (.nil) (.nil)) (.node (⟨.type "tuple", none, .seq [].toArray 0, #[]⟩) (.nil) (.nil))) (.node (gO (tree20 P) 232) (.node (gO (tree33 P) 360) (.nil) (.nil)) (.nil)))) (.node (gO (tree20 P) 56) (.node (gO (tree20 P) 88) (.node (gO (tree20 P) 152) (.node (gO (tree33 P) 280) (.nil) (.nil)) (.node (⟨.type "function", none, .func (fnG (clsS 35 0) "__init__" "StepsOver.__init__" 3 (.none) (.none) (.str "gemrows.errors" 763) (.ref 407) 0), #[]⟩) (.nil) (.nil))) (.node (gO (tree20 P) 216) (.node (gO (tree33 P) 344) (.nil) (.nil)) (.nil))) (.node (gO (tree20 P) 120) (.node (gO (tree20 P) 184) (.node (gO (tree33 P) 312) (.nil) (.nil)) (.node (⟨.type "tuple", none, .seq [].toArray 0, #[]⟩) (.nil) (.nil))) (.node (gO (tree20 P) 248) (.node (kdict P (.type "dict") none (([("__module__", 772, .str "gemrows.errors" 763), ("__qualname__", 774, .str "GemError" 773), ("__firstlineno__", 776, .int 231 775), ("__init__", 785, .ref 388), ("__static_attributes__", 787, .ref 389)] : List DRow)) 5 #[]) (.nil) (.nil)) (.nil)))))) (.node (⟨.none, none, .fields [.int 1 0, .int 0 0, .ref 20, .int 8 0, .int 0 0, .ref 29, .int 17 0, .int 0 0, .ref 50, .int 22 0, .int 0 0, .ref 70, .int 27 0, .int 0 0, .ref 90, .int 47 0, .int 0 0, .ref 128, .int 54 0, .int 0 0, .ref 148, .int 67 0, .int 0 0, .ref 169, .int 73 0, .int 0 0, .ref 189, .int 81 0, .int 0 0, .ref 209, .int 99 0, .int 0 0, .ref 236, .int 107 0, .int 0 0, .ref 243, .int 112 0, .int 0 0, .ref 249, .int 123 0, .int 0 0, .ref 256, .int 130 0, .int 0 0, .ref 263, .int 132 0, .int 0 0, .ref 270, .int 140 0, .int 0 0, .ref 277, .int 148 0, .int 0 0, .ref 284, .int 158 0, .int 0 0, .ref 289, .int 161 0, .int 0 0, .ref 296, .int 163 0, .int 0 0, .ref 303, .int 167 0, .int 0 0, .ref 310, .int 171 0, .int 0 0, .ref 315, .int 192 0, .int 0 0, .ref 322, .int 198 0, .int 0 0, .ref 330, .int 210 0, .int 0 0, .ref 337, .int 220 0, .int 0 0, .ref 365, .int 225 0, .int 0 0, .ref 372, .int 231 0, .int 0 0, .ref 379, .int 236 0, .int 0 0, .ref 400, .int 241 0, .int 0 0, .ref 419, .int 247 0, .int 0 0, .ref 438, .int 249 0, .int 0 0, .ref 445].toArray, #[]⟩) (.node (gO (tree20 P) 20) (.node (gO (tree20 P) 36) (.node (gO (tree20 P) 68) (.node (gO (tree20 P) 132) (.node (gO (tree20 P) 260) (.nil) (.nil)) (.node (⟨.type "function", none, .func (fnG (clsS 34 0) "__init__" "GemError.__init__" 3 (.ref 381) (.none) (.str "gemrows.errors" 763) (.ref 387) 0), #[]⟩) (.nil) (.nil))) (.node (gO (tree20 P) 196) (.node (gO (tree33 P) 324) (.nil) (.nil)) (.node (⟨.type "tuple", none, .seq [.str "Kernel" 985].toArray 0, #[]⟩) (.nil) (.nil)))) (.node (gO (tree20 P) 100) (.node (gO (tree20 P) 164) (.node (gO (tree33 P) 292) (.nil) (.nil)) (.node (⟨.type "frame", none, .plain, [some (.ref 419), some (.ref 3), some (.ref 416), none, some (.str "gemrows.errors" 763), none, some (.ref 0)].toArray⟩) (.nil) (.nil))) (.node (gO (tree20 P) 228) (.node (gO (tree33 P) 356) (.nil) (.nil)) (.nil)))) (.node (gO (tree20 P) 52) (.node (gO (tree20 P) 84) (.node (gO (tree20 P) 148) (.node (gO (tree33 P) 276) (.nil) (.nil)) (.node (⟨.type "tuple", none, .seq [.str "self" 808, .str "most" 809].toArray 0, #[]⟩) (.nil) (.nil))) (.node (gO (tree20 P) 212) (.node (gO (tree33 P) 340) (.nil) (.nil)) (.nil))) (.node (gO (tree20 P) 116) (.node (gO (tree20 P) 180) (.node (gO (tree33 P) 308) (.nil) (.nil)) (.node (⟨.type "tuple", none, .seq [].toArray 0, #[]⟩) (.nil) (.nil))) (.node (gO (tree20 P) 244) (.node (gO (tree33 P) 372) (.nil) (.nil)) (.nil))))) (.node (gO (tree20 P) 28) (.node (gO (tree20 P) 44) (.node (gO (tree20 P) 76) (.node (gO (tree20 P) 140) (.node (gO (tree20 P) 268) (.nil) (.nil)) (.node (⟨.type "builtin_function_or_method", none, .fields [.builtin "type.__prepare__", .type "type"].toArray, #[]⟩) (.nil) (.nil))) (.node (gO (tree20 P) 204) (.node (gO (tree33 P) 332) (.nil) (.nil)) (.nil))) (.node (gO (tree20 P) 108) (.node (gO (tree20 P) 172) (.node (gO (tree33 P) 300) (.nil) (.nil)) (.node (⟨.type "tuple", none, .seq [.str "thing" 838].toArray 0, #[]⟩) (.nil) (.nil))) (.node (gO (tree20 P) 236) (.node (gO (tree33 P) 364) (.nil) (.nil)) (.nil)))) (.node (gO (tree20 P) 60) (.node (gO (tree20 P) 92) (.node (gO (tree20 P) 156) (.node (gO (tree33 P) 284) (.nil) (.nil)) (.node (⟨.type "super", none, .fields [.ref 411, .ref 411, .ref 411].toArray, #[]⟩) (.nil) (.nil))) (.node (gO (tree20 P) 220) (.node (gO (tree33 P) 348) (.nil) (.nil)) (.nil))) (.node (gO (tree20 P) 124) (.node (gO (tree20 P) 188) (.node (gO (tree33 P) 316) (.nil) (.nil)) (.node (⟨.none, none, .func (fnG (topS 39) "own_module" "own_module" 0 (.none) (.none) (.none) (.none) 0), #[]⟩) (.nil) (.nil))) (.node (gO (tree20 P) 252) (.node (⟨.type "frame", none, .plain, [some (.ref 379), some (.ref 3), some (.ref 376), none, some (.str "gemrows.errors" 763), none, some (.ref 0)].toArray⟩) (.nil) (.nil)) (.nil))))))) (.node (boot_o_6 P) (.node (boot_o_10 P) (.node (gO (tree20 P) 18) (.node (gO (tree20 P) 34) (.node (gO (tree20 P) 66) (.node (gO (tree20 P) 130) (.node (gO (tree20 P) 258) (.nil) (.nil)) (.node (⟨.none, none, .func (fnG (clsS 34 0) "__init__" "GemError.__init__" 0 (.none) (.none) (.none) (.none) 0), #[]⟩) (.nil) (.nil))) (.node (gO (tree20 P) 194) (.node (gO (tree33 P) 322) (.nil) (.nil)) (.node (kdict P (.type "dict") none (([("NoMatchingPatternKeyError", 965, .str "NoMatchingPatternError" 966), ("RangeError", 967, .str "StandardError" 968), ("RuntimeError", 969, .str "StandardError" 970), ("FrozenError", 971, .str "RuntimeError" 972), ("TypeError", 973, .str "StandardError" 974), ("ZeroDivisionError", 975, .str "StandardError" 976)] : List DRow)) 6 #[]) (.nil) (.nil)))) (.node (gO (tree20 P) 98) (.node (gO (tree20 P) 162) (.node (gO (tree33 P) 290) (.nil) (.nil)) (.node (⟨.none, none, .fields [.int 243 0, .int 4 0, .ref 426].toArray, #[]⟩) (.nil) (.nil))) (.node (gO (tree20 P) 226) (.node (gO (tree33 P) 354) (.nil) (.nil)) (.nil)))) (.node (gO (tree20 P) 50) (.node (gO (tree20 P) 82) (.node (gO (tree20 P) 146) (.node (gO (tree33 P) 274) (.nil) (.nil)) (.node (⟨.type "tuple", none, .seq [].toArray 0, #[]⟩) (.nil) (.nil))) (.node (gO (tree20 P) 210) (.node (gO (tree33 P) 338) (.nil) (.nil)) (.nil))) (.node (gO (tree20 P) 114) (.node (gO (tree20 P) 178) (.node (gO (tree33 P) 306) (.nil) (.nil)) (.node (⟨.none, none, .fields [].toArray, #[]⟩) (.nil) (.nil))) (.node (gO (tree20 P) 242) (.node (gO (tree33 P) 370) (.nil) (.nil)) (.nil))))) (.node (gO (tree20 P) 26) (.node (gO (tree20 P) 42) (.node (gO (tree20 P) 74) (.node (gO (tree20 P) 138) (.node (gO (tree20 P) 266) (.nil) (.nil)) (.node (⟨.type "builtin_function_or_method", none, .fields [.builtin "object.__init_subclass__", .ref 391].toArray, #[]⟩) (.nil) (.nil))) (.node (gO (tree20 P) 202) (.node (gO (tree33 P) 330) (.nil) (.nil)) (.node (⟨.type "tuple", none, .seq [.str "Enumerable" 997].toArray 0, #[]⟩) (.nil) (.nil)))) (.node (gO (tree20 P) 106) (.node (gO (tree20 P) 170) (.node (gO (tree33 P) 298) (.nil) (.nil)) (.node (⟨.type "code", none, .fields [.str "__init__" 830, .str "Raised.__init__" 831, .str "/claim/cut.py" 832, .int 243 0, .int 2 0, .int 0 0, .int 0 0, .int 3 0, .ref 421, .bool true, .int 181 0, .ref 422, .none, .ref 423, .ref 424, .ref 425, .int 835 0, .int 243 0, .str "/claim/cut.py" 836].toArray, #[]⟩) (.nil) (.nil))) (.node (gO (tree20 P) 234) (.node (gO (tree33 P) 362) (.nil) (.nil)) (.nil)))) (.node (gO (tree20 P) 58) (.node (gO (tree20 P) 90) (.node (gO (tree20 P) 154) (.node (gO (tree33 P) 282) (.nil) (.nil)) (.node (kdict P (.type "dict") none (([("__module__", 800, .str "gemrows.errors" 763), ("__firstlineno__", 804, .int 236 803), ("__init__", 812, .ref 408), ("__static_attributes__", 814, .ref 409), ("__doc__", 815, .none)] : List DRow)) 2 #[]) (.nil) (.nil))) (.node (gO (tree20 P) 218) (.node (gO (tree33 P) 346) (.nil) (.nil)) (.nil))) (.node (gO (tree20 P) 122) (.node (gO (tree20 P) 186) (.node (gO (tree33 P) 314) (.nil) (.nil)) (.node (⟨.type "tuple", none, .seq [.str "world" 855, .str "value" 856, .str "parent" 857].toArray 0, #[]⟩) (.nil) (.nil))) (.node (gO (tree20 P) 250) (.node (⟨.none, none, .fields [.int 233 0, .int 4 0, .ref 387].toArray, #[]⟩) (.nil) (.nil)) (.nil)))))) (.node (o14) (.node (gO (tree20 P) 22) (.node (gO (tree20 P) 38) (.node (gO (tree20 P) 70) (.node (gO (tree20 P) 134) (.node (gO (tree20 P) 262) (.nil) (.nil)) (.node (kdict P (.type "dict") none (([("__module__", 772, .str "gemrows.errors" 763), ("__firstlineno__", 776, .int 231 775), ("__init__", 785, .ref 388), ("__static_attributes__", 787, .ref 389), ("__weakref__", 789, .ref 392), ("__doc__", 790, .none)] : List DRow)) 3 #[]) (.nil) (.nil))) (.node (gO (tree20 P) 198) (.node (gO (tree33 P) 326) (.nil) (.nil)) (.node (⟨.type "tuple", none, .seq [.str "Comparable" 989].toArray 0, #[]⟩) (.nil) (.nil)))) (.node (gO (tree20 P) 102) (.node (gO (tree20 P) 166) (.node (gO (tree33 P) 294) (.nil) (.nil)) (.node (⟨.none, none, .fields [].toArray, #[]⟩) (.nil) (.nil))) (.node (gO (tree20 P) 230) (.node (gO (tree33 P) 358) (.nil) (.nil)) (.nil)))) (.node (gO (tree20 P) 54) (.node (gO (tree20 P) 86) (.node (gO (tree20 P) 150) (.node (gO (tree33 P) 278) (.nil) (.nil)) (.node (⟨.none, none, .func (fnG (clsS 35 0) "__init__" "StepsOver.__init__" 0 (.none) (.none) (.none) (.none) 0), #[]⟩) (.nil) (.nil))) (.node (gO (tree20 P) 214) (.node (gO (tree33 P) 342) (.nil) (.nil)) (.nil))) (.node (gO (tree20 P) 118) (.node (gO (tree20 P) 182) (.node (gO (tree33 P) 310) (.nil) (.nil)) (.node (⟨.type "code", none, .fields [.str "raise_version" 845, .str "raise_version" 846, .str "/claim/cut.py" 847, .int 247 0, .int 1 0, .int 0 0, .int 0 0, .int 3 0, .ref 433, .bool true, .int 181 0, .ref 434, .none, .ref 435, .ref 436, .ref 437, .int 849 0, .int 247 0, .str "/claim/cut.py" 850].toArray, #[]⟩) (.nil) (.nil))) (.node (gO (tree20 P) 246) (.node (⟨.type "tuple", none, .seq [.type "ValueError"].toArray 0, #[]⟩) (.nil) (.nil)) (.nil))))) (.node (gO (tree20 P) 30) (.node (gO (tree20 P) 46) (.node (gO (tree20 P) 78) (.node (gO (tree20 P) 142) (.node (gO (tree20 P) 270) (.nil) (.nil)) (.node (⟨.type "tuple", none, .seq [].toArray 0, #[]⟩) (.nil) (.nil))) (.node (gO (tree20 P) 206) (.node (gO (tree33 P) 334) (.nil) (.nil)) (.nil))) (.node (gO (tree20 P) 110) (.node (gO (tree20 P) 174) (.node (gO (tree33 P) 302) (.nil) (.nil)) (.node (⟨.type "type", none, .cls ({ name := Str.ofString "Raised", bases := [Value.ref 391], mro := [Value.ref 430, Value.ref 391, Value.type "ValueError", Value.type "Exception", Value.type "BaseException", Value.type "object"], ns := 429, qualname := Str.ofString "Raised" }), [some (.ref 414), none, some (.str "Raised" 818), some (.str "Raised" 826), some (.builtin "ValueError.__new__"), some (.bool true)].toArray⟩) (.nil) (.nil))) (.node (gO (tree20 P) 238) (.node (gO (tree33 P) 366) (.nil) (.nil)) (.nil)))) (.node (gO (tree20 P) 62) (.node (gO (tree20 P) 94) (.node (gO (tree20 P) 158) (.node (gO (tree33 P) 286) (.nil) (.nil)) (.node (⟨.type "tuple", none, .seq [.ref 391].toArray 0, #[]⟩) (.nil) (.nil))) (.node (gO (tree20 P) 222) (.node (gO (tree33 P) 350) (.nil) (.nil)) (.nil))) (.node (gO (tree20 P) 126) (.node (gO (tree20 P) 190) (.node (gO (tree33 P) 318) (.nil) (.nil)) (.node (⟨.type "function", none, .func (fnG (topS 39) "own_module" "own_module" 3 (.none) (.none) (.str "gemrows.lines" 843) (.ref 445) 0), #[]⟩) (.nil) (.nil))) (.node (gO (tree20 P) 254) (.node (⟨.type "tuple", none, .seq [].toArray 0, #[]⟩) (.nil) (.nil)) (.nil))))))))
def st45 (P : Params) (os : OsState) : SharedT := ⟨tree45 P, 460, {}, #[], {}, 1013, os⟩
def pos45 : Pos := ⟨268, 0, 268, 6⟩
def tree55 (P : Params) : BT := .node (boot_o_0 P) (.node (boot_o_1 P) (.node (kdict P (.type "dict") none (([("__name__", 165, .str "law_pq0507_01" 1367), ("__doc__", 166, .none), ("__package__", 167, .none), ("__loader__", 168, .builtin "__main__.__loader__#opaque"), ("__spec__", 169, .none), ("__annotations__", 170, .ref 6), ("__builtins__", 171, .ref 4), ("__file__", 173, .str "/claim/cut.py" 172), ("__cached__", 174, .none), ("_wall", 193, .ref 21), ("SIMPLE_ESCAPES", 229, .ref 22), ("OPERATORS", 257, .ref 23), ("DEEPEST_KEY", 259, .int 12 258), ("Thing", 294, .ref 40), ("Text", 322, .ref 62), ("ListThing", 349, .ref 82), ("TableThing", 401, .ref 120), ("RangeThing", 432, .ref 140), ("ProcThing", 475, .ref 161), ("ErrorThing", 503, .ref 181)] : List DRow) ++ ([("FiberThing", 533, .ref 201), ("ModuleThing", 580, .ref 228), ("sort_of", 587, .ref 237), ("same", 596, .ref 244), ("code_of", 602, .ref 250), ("is_word", 610, .ref 257), ("is_label", 617, .ref 264), ("is_plain_symbol", 624, .ref 271), ("full_name", 631, .ref 278), ("show_letter", 641, .ref 285), ("show_text", 647, .ref 290), ("show_symbol", 654, .ref 297), ("show_pair", 663, .ref 304), ("show_range", 673, .ref 311), ("show_thing", 679, .ref 316), ("show_error", 690, .ref 323), ("show", 700, .ref 331), ("Result", 744, .ref 355), ("show_raised", 752, .ref 366), ("result_of", 762, .ref 373)] : List DRow) ++ ([("GemError", 792, .ref 391), ("StepsOver", 817, .ref 411), ("Raised", 842, .ref 430), ("raise_version", 851, .ref 439), ("own_module", 860, .ref 446), ("MODULES", 866, .ref 447), ("BUILTINS", 983, .ref 448), ("MIXED", 1005, .ref 451), ("UNMADE", 1012, .ref 459), ("World", 1366, .ref 714), ("_law_box", 1378, .ref 725), ("_law_take", 1388, .ref 732), ("_law_quoted", 1399, .ref 739), ("_law_word", 1406, .ref 746), ("_law_key", 1418, .ref 753), ("_law_value", 1424, .ref 758), ("_law_error", 1438, .ref 765), ("law", 1444, .ref 770)] : List DRow)) 58 #[]) (.node (boot_o_7 P) (.node (gO (tree20 P) 15) (.node (gO (tree20 P) 31) (.node (gO (tree20 P) 63) (.node (gO (tree20 P) 127) (.node (gO (tree20 P) 255) (.node (⟨.none, none, .fields [].toArray, #[]⟩) (.nil) (.nil)) (.node (⟨.none, none, .fields [].toArray, #[]⟩) (.nil) (.nil))) (.node (gO (tree45 P) 383) (.node (⟨.none, none, .func (fnG (clsS 45 24) "error" "World.error" 0 (.none) (.none) (.none) (.none) 0), #[]⟩) (.nil) (.nil)) (.nil))) (.node (gO (tree20 P) 191) (.node (gO (tree33 P) 319) (.node (⟨.type "tuple", none, .seq [].toArray 0, #[]⟩) (.nil) (.nil)) (.nil)) (.node (gO (tree45 P) 447) (.node (⟨.type "code", none, .fields [.str "constant_in" 1325, .str "World.constant_in" 1326, .str "/claim/cut.py" 1327, .int 471 0, .int 3 0, .int 0 0, .int 0 0, .int 3 0, .ref 698, .bool true, .int 181 0, .ref 699, .none, .ref 700, .ref 701, .ref 702, .int 1331 0, .int 471 0, .str "/claim/cut.py" 1332].toArray, #[]⟩) (.nil) (.nil)) (.nil)))) (.node (gO (tree20 P) 95) (.node (gO (tree20 P) 159) (.node (gO (tree33 P) 287) (.node (⟨.type "function", none, .func (fnG (clsS 45 10) "class_of" "World.class_of" 3 (.none) (.none) (.str "gemrows.world" 861) (.ref 542) 0), #[]⟩) (.nil) (.nil)) (.nil)) (.node (gO (tree45 P) 415) (.node (⟨.none, none, .fields [].toArray, #[]⟩) (.nil) (.nil)) (.nil))) (.node (gO (tree20 P) 223) (.node (gO (tree33 P) 351) (.node (⟨.type "tuple", none, .seq [].toArray 0, #[]⟩) (.nil) (.nil)) (.nil)) (.node (⟨.none, none, .func (fnG (clsS 45 1) "tick" "World.tick" 0 (.none) (.none) (.none) (.none) 0), #[]⟩) (.node (⟨.type "tuple", none, .seq [.str "text" 1392, .str "signs" 1393, .str "made" 1394, .str "at" 1395, .str "sign" 1396].toArray 0, #[]⟩) (.nil) (.nil)) (.nil))))) (.node (gO (tree20 P) 47) (.node (gO (tree20 P) 79) (.node (gO (tree20 P) 143) (.node (gO (tree20 P) 271) (.node (⟨.type "code", none, .fields [.str "give_own" 1091, .str "World.give_own" 1092, .str "/claim/cut.py" 1093, .int 340 0, .int 2 0, .int 0 0, .int 0 0, .int 3 0, .ref 522, .bool true, .int 181 0, .ref 523, .none, .ref 524, .ref 525, .ref 526, .int 1096 0, .int 340 0, .str "/claim/cut.py" 1097].toArray, #[]⟩) (.nil) (.nil)) (.nil)) (.node (gO (tree45 P) 399) (.node (⟨.type "function", none, .func (fnG (clsS 45 26) "need_thawed" "World.need_thawed" 3 (.none) (.none) (.str "gemrows.world" 861) (.ref 654) 0), #[]⟩) (.nil) (.nil)) (.nil))) (.node (gO (tree20 P) 207) (.node (gO (tree33 P) 335) (.node (⟨.type "code", none, .fields [.str "table_of" 1170, .str "World.table_of" 1171, .str "/claim/cut.py" 1172, .int 382 0, .int 2 0, .int 0 0, .int 0 0, .int 3 0, .ref 586, .bool true, .int 181 0, .ref 587, .none, .ref 588, .ref 589, .ref 590, .int 1178 0, .int 382 0, .str "/claim/cut.py" 1179].toArray, #[]⟩) (.nil) (.nil)) (.nil)) (.node (⟨.type "tuple", none, .seq [].toArray 0, #[]⟩) (.node (⟨.type "tuple", none, .seq [].toArray 0, #[]⟩) (.nil) (.nil)) (.nil)))) (.node (gO (tree20 P) 111) (.node (gO (tree20 P) 175) (.node (gO (tree33 P) 303) (.node (⟨.none, none, .fields [].toArray, #[]⟩) (.nil) (.nil)) (.nil)) (.node (gO (tree45 P) 431) (.node (⟨.type "tuple", none, .seq [].toArray 0, #[]⟩) (.nil) (.nil)) (.nil))) (.node (gO (tree20 P) 239) (.node (gO (tree33 P) 367) (.node (⟨.type "tuple", none, .seq [.str "self" 1232, .str "module" 1233].toArray 0, #[]⟩) (.nil) (.nil)) (.nil)) (.node (⟨.type "function", none, .func (fnG (clsS 45 3) "number" "World.number" 3 (.none) (.none) (.str "gemrows.world" 861) (.ref 494) 0), #[]⟩) (.node (⟨.none, none, .func (fnG (topS 51) "_law_key" "_law_key" 0 (.none) (.none) (.none) (.none) 0), #[]⟩) (.nil) (.nil)) (.nil)))))) (.node (gO (tree20 P) 23) (.node (gO (tree20 P) 39) (.node (gO (tree20 P) 71) (.node (gO (tree20 P) 135) (.node (gO (tree20 P) 263) (.node (⟨.none, none, .func (fnG (clsS 45 7) "make_builtin" "World.make_builtin" 0 (.none) (.none) (.none) (.none) 0), #[]⟩) (.nil) (.nil)) (.nil)) (.node (gO (tree45 P) 391) (.node (⟨.type "code", none, .fields [.str "fail" 1254, .str "World.fail" 1255, .str "/claim/cut.py" 1256, .int 447 0, .int 3 0, .int 0 0, .int 0 0, .int 3 0, .ref 642, .bool true, .int 181 0, .ref 643, .none, .ref 644, .ref 645, .ref 646, .int 1260 0, .int 447 0, .str "/claim/cut.py" 1261].toArray, #[]⟩) (.nil) (.nil)) (.nil))) (.node (gO (tree20 P) 199) (.node (gO (tree33 P) 327) (.node (⟨.none, none, .func (fnG (clsS 45 16) "list_of" "World.list_of" 0 (.none) (.none) (.none) (.none) 0), #[]⟩) (.nil) (.nil)) (.nil)) (.node (gO (tree45 P) 455) (.node (⟨.type "function", none, .func (fnG (clsS 45 34) "set_constant" "World.set_constant" 3 (.none) (.none) (.str "gemrows.world" 861) (.ref 710) 0), #[]⟩) (.nil) (.nil)) (.nil)))) (.node (gO (tree20 P) 103) (.node (gO (tree20 P) 167) (.node (gO (tree33 P) 295) (.node (⟨.type "tuple", none, .seq [].toArray 0, #[]⟩) (.nil) (.nil)) (.nil)) (.node (gO (tree45 P) 423) (.node (⟨.type "tuple", none, .seq [.str "self" 1301, .str "nesting" 1302, .str "name" 1303].toArray 0, #[]⟩) (.nil) (.nil)) (.nil))) (.node (gO (tree20 P) 231) (.node (gO (tree33 P) 359) (.node (⟨.none, none, .fields [].toArray, #[]⟩) (.nil) (.nil)) (.nil)) (.node (⟨.type "code", none, .fields [.str "write" 1045, .str "World.write" 1046, .str "/claim/cut.py" 1047, .int 296 0, .int 2 0, .int 0 0, .int 0 0, .int 3 0, .ref 482, .bool true, .int 181 0, .ref 483, .none, .ref 484, .ref 485, .ref 486, .int 1050 0, .int 296 0, .str "/claim/cut.py" 1051].toArray, #[]⟩) (.node (⟨.type "tuple", none, .seq [].toArray 0, #[]⟩) (.nil) (.nil)) (.nil))))) (.node (gO (tree20 P) 55) (.node (gO (tree20 P) 87) (.node (gO (tree20 P) 151) (.node (gO (tree33 P) 279) (.node (⟨.type "code", none, .fields [.str "new_module" 1099, .str "World.new_module" 1100, .str "/claim/cut.py" 1101, .int 344 0, .int 6 0, .int 0 0, .int 0 0, .int 3 0, .ref 530, .bool true, .int 181 0, .ref 531, .none, .ref 532, .ref 533, .ref 534, .int 1111 0, .int 344 0, .str "/claim/cut.py" 1112].toArray, #[]⟩) (.nil) (.nil)) (.nil)) (.node (gO (tree45 P) 407) (.node (⟨.type "tuple", none, .seq [].toArray 0, #[]⟩) (.nil) (.nil)) (.nil))) (.node (gO (tree20 P) 215) (.node (gO (tree33 P) 343) (.node (⟨.type "function", none, .func (fnG (clsS 45 18) "key_of" "World.key_of" 3 (.none) (.none) (.str "gemrows.world" 861) (.ref 598) 0), #[]⟩) (.nil) (.nil)) (.nil)) (.node (⟨.type "tuple", none, .seq [].toArray 0, #[]⟩) (.node (⟨.none, none, .fields [].toArray, #[]⟩) (.nil) (.nil)) (.nil)))) (.node (gO (tree20 P) 119) (.node (gO (tree20 P) 183) (.node (gO (tree33 P) 311) (.node (⟨.type "tuple", none, .seq [.str "self" 1149, .str "module" 1150].toArray 0, #[]⟩) (.nil) (.nil)) (.nil)) (.node (gO (tree45 P) 439) (.node (⟨.none, none, .func (fnG (clsS 45 32) "find_in" "World.find_in" 0 (.none) (.none) (.none) (.none) 0), #[]⟩) (.nil) (.nil)) (.nil))) (.node (gO (tree20 P) 247) (.node (gO (tree45 P) 375) (.node (⟨.type "tuple", none, .seq [].toArray 0, #[]⟩) (.nil) (.nil)) (.nil)) (.node (⟨.type "tuple", none, .seq [].toArray 0, #[]⟩) (.node (⟨.type "tuple", none, .seq [].toArray 0, #[]⟩) (.nil) (.nil)) (.nil))))))) (.node (o11) (.node (gO (tree20 P) 19) (.node (gO (tree20 P) 35) (.node (gO (tree20 P) 67) (.node (gO (tree20 P) 131) (.node (gO (tree20 P) 259) (.node (⟨.type "code", none, .fields [.str "builtin" 1076, .str "World.builtin" 1077, .str "/claim/cut.py" 1078, .int 323 0, .int 2 0, .int 0 0, .int 0 0, .int 3 0, .ref 510, .bool true, .int 181 0, .ref 511, .none, .ref 512, .ref 513, .ref 514, .int 1082 0, .int 323 0, .str "/claim/cut.py" 1083].toArray, #[]⟩) (.nil) (.nil)) (.nil)) (.node (gO (tree45 P) 387) (.node (⟨.none, none, .fields [].toArray, #[]⟩) (.nil) (.nil)) (.nil))) (.node (gO (tree20 P) 195) (.node (gO (tree33 P) 323) (.node (⟨.type "tuple", none, .seq [].toArray 0, #[]⟩) (.nil) (.nil)) (.nil)) (.node (gO (tree45 P) 451) (.node (⟨.type "tuple", none, .seq [.str "self" 1337, .str "module" 1338, .str "name" 1339, .str "value" 1340].toArray 0, #[]⟩) (.nil) (.nil)) (.nil)))) (.node (gO (tree20 P) 99) (.node (gO (tree20 P) 163) (.node (gO (tree33 P) 291) (.node (⟨.type "tuple", none, .seq [].toArray 0, #[]⟩) (.nil) (.nil)) (.nil)) (.node (gO (tree45 P) 419) (.node (⟨.type "code", none, .fields [.str "own_constant" 1289, .str "World.own_constant" 1290, .str "/claim/cut.py" 1291, .int 459 0, .int 3 0, .int 0 0, .int 0 0, .int 3 0, .ref 670, .bool true, .int 181 0, .ref 671, .none, .ref 672, .ref 673, .ref 674, .int 1295 0, .int 459 0, .str "/claim/cut.py" 1296].toArray, #[]⟩) (.nil) (.nil)) (.nil))) (.node (gO (tree20 P) 227) (.node (gO (tree33 P) 355) (.node (⟨.none, none, .func (fnG (clsS 45 20) "proc" "World.proc" 0 (.none) (.none) (.none) (.none) 0), #[]⟩) (.nil) (.nil)) (.nil)) (.node (⟨.none, none, .fields [].toArray, #[]⟩) (.node (⟨.type "function", none, .func (fnG (topS 49) "_law_quoted" "_law_quoted" 3 (.none) (.none) (.str "law_pq0507_01" 1367) (.ref 738) 0), #[]⟩) (.nil) (.nil)) (.nil))))) (.node (gO (tree20 P) 51) (.node (gO (tree20 P) 83) (.node (gO (tree20 P) 147) (.node (gO (tree33 P) 275) (.node (⟨.none, none, .fields [].toArray, #[]⟩) (.nil) (.nil)) (.nil)) (.node (gO (tree45 P) 403) (.node (⟨.type "tuple", none, .seq [].toArray 0, #[]⟩) (.nil) (.nil)) (.nil))) (.node (gO (tree20 P) 211) (.node (gO (tree33 P) 339) (.node (⟨.type "tuple", none, .seq [.str "self" 1184, .str "key" 1185, .str "found" 1186].toArray 0, #[]⟩) (.nil) (.nil)) (.nil)) (.node (⟨.type "tuple", none, .seq [.none, .none, .int 20000 1025].toArray 0, #[]⟩) (.node (⟨.none, none, .func (fnG (topS 47) "_law_box" "_law_box" 0 (.none) (.none) (.none) (.none) 0), #[]⟩) (.nil) (.nil)) (.nil)))) (.node (gO (tree20 P) 115) (.node (gO (tree20 P) 179) (.node (gO (tree33 P) 307) (.node (⟨.type "code", none, .fields [.str "root_of" 1138, .str "World.root_of" 1139, .str "/claim/cut.py" 1140, .int 368 0, .int 2 0, .int 0 0, .int 0 0, .int 3 0, .ref 558, .bool true, .int 181 0, .ref 559, .none, .ref 560, .ref 561, .ref 562, .int 1143 0, .int 368 0, .str "/claim/cut.py" 1144].toArray, #[]⟩) (.nil) (.nil)) (.nil)) (.node (gO (tree45 P) 435) (.node (⟨.type "tuple", none, .seq [].toArray 0, #[]⟩) (.nil) (.nil)) (.nil))) (.node (gO (tree20 P) 243) (.node (gO (tree33 P) 371) (.node (⟨.type "function", none, .func (fnG (clsS 45 22) "is_error_class" "World.is_error_class" 3 (.none) (.none) (.str "gemrows.world" 861) (.ref 626) 0), #[]⟩) (.nil) (.nil)) (.nil)) (.node (⟨.type "tuple", none, .seq [].toArray 0, #[]⟩) (.node (⟨.none, none, .fields [].toArray, #[]⟩) (.nil) (.nil)) (.nil)))))) (.node (gO (tree20 P) 27) (.node (gO (tree20 P) 43) (.node (gO (tree20 P) 75) (.node (gO (tree20 P) 139) (.node (gO (tree20 P) 267) (.node (⟨.none, none, .fields [].toArray, #[]⟩) (.nil) (.nil)) (.nil)) (.node (gO (tree45 P) 395) (.node (⟨.type "tuple", none, .seq [.str "self" 1266, .str "value" 1267].toArray 0, #[]⟩) (.nil) (.nil)) (.nil))) (.node (gO (tree20 P) 203) (.node (gO (tree33 P) 331) (.node (⟨.none, none, .fields [].toArray, #[]⟩) (.nil) (.nil)) (.nil)) (.node (gO (tree45 P) 459) (.node (⟨.type "getset_descriptor", none, .fields [.str "__dict__" 1360, .ref 714, .builtin "function.__dict__", .builtin "function.__dict__#set"].toArray, #[]⟩) (.nil) (.nil)) (.nil)))) (.node (gO (tree20 P) 107) (.node (gO (tree20 P) 171) (.node (gO (tree33 P) 299) (.node (⟨.none, none, .func (fnG (clsS 45 12) "own_behind" "World.own_behind" 0 (.none) (.none) (.none) (.none) 0), #[]⟩) (.nil) (.nil)) (.nil)) (.node (gO (tree45 P) 427) (.node (⟨.type "function", none, .func (fnG (clsS 45 30) "find_constant" "World.find_constant" 3 (.none) (.none) (.str "gemrows.world" 861) (.ref 682) 0), #[]⟩) (.nil) (.nil)) (.nil))) (.node (gO (tree20 P) 235) (.node (gO (tree33 P) 363) (.node (⟨.type "code", none, .fields [.str "thing" 1219, .str "World.thing" 1220, .str "/claim/cut.py" 1221, .int 408 0, .int 2 0, .int 0 0, .int 0 0, .int 3 0, .ref 614, .bool true, .int 181 0, .ref 615, .none, .ref 616, .ref 617, .ref 618, .int 1226 0, .int 408 0, .str "/claim/cut.py" 1227].toArray, #[]⟩) (.nil) (.nil)) (.nil)) (.node (⟨.type "tuple", none, .seq [.str "self" 1056].toArray 0, #[]⟩) (.node (⟨.type "tuple", none, .seq [].toArray 0, #[]⟩) (.nil) (.nil)) (.nil))))) (.node (gO (tree20 P) 59) (.node (gO (tree20 P) 91) (.node (gO (tree20 P) 155) (.node (gO (tree33 P) 283) (.node (⟨.type "tuple", none, .seq [.str "self" 1117, .str "value" 1118].toArray 0, #[]⟩) (.nil) (.nil)) (.nil)) (.node (gO (tree45 P) 411) (.node (⟨.none, none, .func (fnG (clsS 45 28) "describe" "World.describe" 0 (.none) (.none) (.none) (.none) 0), #[]⟩) (.nil) (.nil)) (.nil))) (.node (gO (tree20 P) 219) (.node (gO (tree33 P) 347) (.node (⟨.type "tuple", none, .seq [].toArray 0, #[]⟩) (.nil) (.nil)) (.nil)) (.node (⟨.type "tuple", none, .seq [].toArray 0, #[]⟩) (.node (⟨.type "code", none, .fields [.str "_law_take" 1379, .str "_law_take" 1380, .str "/claim/cut.py" 1381, .int 484 0, .int 2 0, .int 0 0, .int 0 0, .int 3 0, .ref 726, .bool true, .int 181 0, .ref 727, .none, .ref 728, .ref 729, .ref 730, .int 1386 0, .int 484 0, .str "/claim/cut.py" 1387].toArray, #[]⟩) (.nil) (.nil)) (.nil)))) (.node (gO (tree20 P) 123) (.node (gO (tree20 P) 187) (.node (gO (tree33 P) 315) (.node (⟨.type "function", none, .func (fnG (clsS 45 14) "real_class" "World.real_class" 3 (.none) (.none) (.str "gemrows.world" 861) (.ref 570) 0), #[]⟩) (.nil) (.nil)) (.nil)) (.node (gO (tree45 P) 443) (.node (⟨.none, none, .fields [].toArray, #[]⟩) (.nil) (.nil)) (.nil))) (.node (gO (tree20 P) 251) (.node (gO (tree45 P) 379) (.node (⟨.type "tuple", none, .seq [].toArray 0, #[]⟩) (.nil) (.nil)) (.nil)) (.node (⟨.none, none, .func (fnG (clsS 45 5) "ident" "World.ident" 0 (.none) (.none) (.none) (.none) 0), #[]⟩) (.node (⟨.none, none, .func (fnG (topS 53) "_law_error" "_law_error" 0 (.none) (.none) (.none) (.none) 0), #[]⟩) (.nil) (.nil)) (.nil)))))))) (.node (boot_o_5 P) (.node (boot_o_9 P) (.node (gO (tree20 P) 17) (.node (gO (tree20 P) 33) (.node (gO (tree20 P) 65) (.node (gO (tree20 P) 129) (.node (gO (tree20 P) 257) (.node (⟨.type "tuple", none, .seq [].toArray 0, #[]⟩) (.nil) (.nil)) (.node (⟨.type "code", none, .fields [.str "law" 1439, .str "law" 1440, .str "/claim/cut.py" 1441, .int 565 0, .int 1 0, .int 0 0, .int 0 0, .int 3 0, .ref 766, .bool true, .int 181 0, .ref 767, .none, .none, .none, .ref 768, .int 1442 0, .int 565 0, .str "/claim/cut.py" 1443].toArray, #[]⟩) (.nil) (.nil))) (.node (gO (tree45 P) 385) (.node (⟨.type "function", none, .func (fnG (clsS 45 24) "error" "World.error" 3 (.none) (.none) (.str "gemrows.world" 861) (.ref 640) 0), #[]⟩) (.nil) (.nil)) (.nil))) (.node (gO (tree20 P) 193) (.node (gO (tree33 P) 321) (.node (⟨.type "code", none, .fields [.str "text" 1154, .str "World.text" 1155, .str "/claim/cut.py" 1156, .int 376 0, .int 2 0, .int 0 0, .int 0 0, .int 3 0, .ref 572, .bool true, .int 181 0, .ref 573, .none, .ref 574, .ref 575, .ref 576, .int 1159 0, .int 376 0, .str "/claim/cut.py" 1160].toArray, #[]⟩) (.nil) (.nil)) (.nil)) (.node (gO (tree45 P) 449) (.node (⟨.type "tuple", none, .seq [].toArray 0, #[]⟩) (.nil) (.nil)) (.nil)))) (.node (gO (tree20 P) 97) (.node (gO (tree20 P) 161) (.node (gO (tree33 P) 289) (.node (⟨.none, none, .fields [].toArray, #[]⟩) (.nil) (.nil)) (.nil)) (.node (gO (tree45 P) 417) (.node (⟨.type "tuple", none, .seq [].toArray 0, #[]⟩) (.nil) (.nil)) (.nil))) (.node (gO (tree20 P) 225) (.node (gO (tree33 P) 353) (.node (⟨.type "tuple", none, .seq [.str "self" 1205, .str "params" 1206, .str "body" 1207, .str "env" 1208, .str "self_value" 1209, .str "nesting" 1210, .str "home" 1211, .str "site" 1212, .str "is_lambda" 1213, .str "definer" 1214, .str "owner" 1215].toArray 0, #[]⟩) (.nil) (.nil)) (.nil)) (.node (⟨.type "function", none, .func (fnG (clsS 45 1) "tick" "World.tick" 3 (.none) (.none) (.str "gemrows.world" 861) (.ref 480) 0), #[]⟩) (.node (⟨.none, none, .func (fnG (topS 49) "_law_quoted" "_law_quoted" 0 (.none) (.none) (.none) (.none) 0), #[]⟩) (.nil) (.nil)) (.nil))))) (.node (gO (tree20 P) 49) (.node (gO (tree20 P) 81) (.node (gO (tree20 P) 145) (.node (gO (tree33 P) 273) (.node (⟨.type "tuple", none, .seq [.none, .none, .none].toArray 0, #[]⟩) (.nil) (.nil)) (.nil)) (.node (gO (tree45 P) 401) (.node (⟨.none, none, .fields [].toArray, #[]⟩) (.nil) (.nil)) (.nil))) (.node (gO (tree20 P) 209) (.node (gO (tree33 P) 337) (.node (⟨.type "tuple", none, .seq [].toArray 0, #[]⟩) (.nil) (.nil)) (.nil)) (.node (⟨.type "code", none, .fields [.str "World" 1015, .str "World" 1016, .str "/claim/cut.py" 1017, .int 269 0, .int 0 0, .int 0 0, .int 0 0, .int 0 0, .ref 463, .bool false, .int 181 0, .ref 464, .none, .none, .none, .none, .int 1018 0, .int 269 0, .str "/claim/cut.py" 1019].toArray, #[]⟩) (.node (⟨.type "tuple", none, .seq [.str "script" 1372, .str "seed" 1373, .str "great" 1374, .str "cell" 1375].toArray 0, #[]⟩) (.nil) (.nil)) (.nil)))) (.node (gO (tree20 P) 113) (.node (gO (tree20 P) 177) (.node (gO (tree33 P) 305) (.node (⟨.type "tuple", none, .seq [].toArray 0, #[]⟩) (.nil) (.nil)) (.nil)) (.node (gO (tree45 P) 433) (.node (⟨.type "code", none, .fields [.str "constant" 1307, .str "World.constant" 1308, .str "/claim/cut.py" 1309, .int 465 0, .int 3 0, .int 0 0, .int 0 0, .int 3 0, .ref 684, .bool true, .int 181 0, .ref 685, .none, .ref 686, .ref 687, .ref 688, .int 1313 0, .int 465 0, .str "/claim/cut.py" 1314].toArray, #[]⟩) (.nil) (.nil)) (.nil))) (.node (gO (tree20 P) 241) (.node (gO (tree33 P) 369) (.node (⟨.none, none, .func (fnG (clsS 45 22) "is_error_class" "World.is_error_class" 0 (.none) (.none) (.none) (.none) 0), #[]⟩) (.nil) (.nil)) (.nil)) (.node (⟨.none, none, .fields [].toArray, #[]⟩) (.node (⟨.type "function", none, .func (fnG (topS 51) "_law_key" "_law_key" 3 (.none) (.none) (.str "law_pq0507_01" 1367) (.ref 752) 0), #[]⟩) (.nil) (.nil)) (.nil)))))) (.node (gO (tree20 P) 25) (.node (gO (tree20 P) 41) (.node (gO (tree20 P) 73) (.node (gO (tree20 P) 137) (.node (gO (tree20 P) 265) (.node (⟨.type "function", none, .func (fnG (clsS 45 7) "make_builtin" "World.make_builtin" 3 (.none) (.none) (.str "gemrows.world" 861) (.ref 520) 0), #[]⟩) (.nil) (.nil)) (.nil)) (.node (gO (tree45 P) 393) (.node (⟨.type "tuple", none, .seq [].toArray 0, #[]⟩) (.nil) (.nil)) (.nil))) (.node (gO (tree20 P) 201) (.node (gO (tree33 P) 329) (.node (⟨.type "function", none, .func (fnG (clsS 45 16) "list_of" "World.list_of" 3 (.none) (.none) (.str "gemrows.world" 861) (.ref 584) 0), #[]⟩) (.nil) (.nil)) (.nil)) (.node (gO (tree45 P) 457) (.node (kdict P (.type "dict") none (([("__module__", 1020, .str "gemrows.world" 861), ("__firstlineno__", 1024, .int 269 1023), ("__init__", 1037, .ref 474), ("tick", 1044, .ref 481), ("write", 1052, .ref 488), ("number", 1059, .ref 495), ("next_ident", 1066, .ref 502), ("ident", 1075, .ref 509), ("builtin", 1084, .ref 516), ("make_builtin", 1090, .ref 521), ("give_own", 1098, .ref 528), ("new_module", 1113, .ref 536), ("class_of", 1121, .ref 543), ("own_of", 1129, .ref 550), ("own_behind", 1137, .ref 557), ("root_of", 1145, .ref 564), ("real_class", 1153, .ref 571), ("text", 1161, .ref 578), ("list_of", 1169, .ref 585), ("table_of", 1180, .ref 592)] : List DRow) ++ ([("key_of", 1189, .ref 599), ("range_of", 1201, .ref 606), ("proc", 1218, .ref 613), ("thing", 1228, .ref 620), ("is_error_class", 1236, .ref 627), ("spread", 1244, .ref 634), ("error", 1253, .ref 641), ("fail", 1262, .ref 648), ("need_thawed", 1270, .ref 655), ("set_field", 1280, .ref 662), ("describe", 1288, .ref 669), ("own_constant", 1297, .ref 676), ("find_constant", 1306, .ref 683), ("constant", 1315, .ref 690), ("find_in", 1324, .ref 697), ("constant_in", 1333, .ref 704), ("set_constant", 1343, .ref 711), ("__static_attributes__", 1359, .ref 712), ("__dict__", 1361, .ref 715), ("__weakref__", 1363, .ref 716)] : List DRow) ++ ([("__doc__", 1364, .none)] : List DRow)) 4 #[]) (.nil) (.nil)) (.nil)))) (.node (gO (tree20 P) 105) (.node (gO (tree20 P) 169) (.node (gO (tree33 P) 297) (.node (⟨.type "tuple", none, .seq [.str "self" 1133, .str "module" 1134].toArray 0, #[]⟩) (.nil) (.nil)) (.nil)) (.node (gO (tree45 P) 425) (.node (⟨.none, none, .func (fnG (clsS 45 30) "find_constant" "World.find_constant" 0 (.none) (.none) (.none) (.none) 0), #[]⟩) (.nil) (.nil)) (.nil))) (.node (gO (tree20 P) 233) (.node (gO (tree33 P) 361) (.node (⟨.type "tuple", none, .seq [].toArray 0, #[]⟩) (.nil) (.nil)) (.nil)) (.node (⟨.type "tuple", none, .seq [].toArray 0, #[]⟩) (.node (⟨.type "code", none, .fields [.str "_law_word" 1400, .str "_law_word" 1401, .str "/claim/cut.py" 1402, .int 498 0, .int 1 0, .int 0 0, .int 0 0, .int 3 0, .ref 740, .bool true, .int 181 0, .ref 741, .none, .ref 742, .ref 743, .ref 744, .int 1404 0, .int 498 0, .str "/claim/cut.py" 1405].toArray, #[]⟩) (.nil) (.nil)) (.nil))))) (.node (gO (tree20 P) 57) (.node (gO (tree20 P) 89) (.node (gO (tree20 P) 153) (.node (gO (tree33 P) 281) (.node (⟨.type "tuple", none, .seq [].toArray 0, #[]⟩) (.nil) (.nil)) (.nil)) (.node (gO (tree45 P) 409) (.node (⟨.type "tuple", none, .seq [.str "self" 1284, .str "value" 1285].toArray 0, #[]⟩) (.nil) (.nil)) (.nil))) (.node (gO (tree20 P) 217) (.node (gO (tree33 P) 345) (.node (⟨.none, none, .fields [].toArray, #[]⟩) (.nil) (.nil)) (.nil)) (.node (⟨.type "code", none, .fields [.str "__init__" 1026, .str "World.__init__" 1027, .str "/claim/cut.py" 1028, .int 271 0, .int 5 0, .int 0 0, .int 0 0, .int 3 0, .ref 468, .bool true, .int 181 0, .ref 469, .none, .ref 470, .ref 471, .ref 472, .int 1035 0, .int 271 0, .str "/claim/cut.py" 1036].toArray, #[]⟩) (.node (⟨.type "tuple", none, .seq [].toArray 0, #[]⟩) (.nil) (.nil)) (.nil)))) (.node (gO (tree20 P) 121) (.node (gO (tree20 P) 185) (.node (gO (tree33 P) 313) (.node (⟨.none, none, .func (fnG (clsS 45 14) "real_class" "World.real_class" 0 (.none) (.none) (.none) (.none) 0), #[]⟩) (.nil) (.nil)) (.nil)) (.node (gO (tree45 P) 441) (.node (⟨.type "function", none, .func (fnG (clsS 45 32) "find_in" "World.find_in" 3 (.none) (.none) (.str "gemrows.world" 861) (.ref 696) 0), #[]⟩) (.nil) (.nil)) (.nil))) (.node (gO (tree20 P) 249) (.node (gO (tree45 P) 377) (.node (⟨.type "code", none, .fields [.str "spread" 1237, .str "World.spread" 1238, .str "/claim/cut.py" 1239, .int 441 0, .int 2 0, .int 0 0, .int 0 0, .int 3 0, .ref 628, .bool true, .int 181 0, .ref 629, .none, .ref 630, .ref 631, .ref 632, .int 1242 0, .int 441 0, .str "/claim/cut.py" 1243].toArray, #[]⟩) (.nil) (.nil)) (.nil)) (.node (⟨.type "tuple", none, .seq [.str "self" 1070, .str "value" 1071, .str "sort" 1072].toArray 0, #[]⟩) (.node (⟨.type "tuple", none, .seq [.str "box" 1428, .str "world" 1429, .str "way" 1430, .str "module" 1431, .str "name" 1432, .str "outer" 1433, .str "word1" 1434, .str "number" 1435].toArray 0, #[]⟩) (.nil) (.nil)) (.nil))))))) (.node (o13) (.node (gO (tree20 P) 21) (.node (gO (tree20 P) 37) (.node (gO (tree20 P) 69) (.node (gO (tree20 P) 133) (.node (gO (tree20 P) 261) (.node (⟨.type "tuple", none, .seq [].toArray 0, #[]⟩) (.nil) (.nil)) (.nil)) (.node (gO (tree45 P) 389) (.node (⟨.type "tuple", none, .seq [].toArray 0, #[]⟩) (.nil) (.nil)) (.nil))) (.node (gO (tree20 P) 197) (.node (gO (tree33 P) 325) (.node (⟨.type "tuple", none, .seq [.str "self" 1165, .str "items" 1166].toArray 0, #[]⟩) (.nil) (.nil)) (.nil)) (.node (gO (tree45 P) 453) (.node (⟨.none, none, .func (fnG (clsS 45 34) "set_constant" "World.set_constant" 0 (.none) (.none) (.none) (.none) 0), #[]⟩) (.nil) (.nil)) (.nil)))) (.node (gO (tree20 P) 101) (.node (gO (tree20 P) 165) (.node (gO (tree33 P) 293) (.node (⟨.type "code", none, .fields [.str "own_of" 1122, .str "World.own_of" 1123, .str "/claim/cut.py" 1124, .int 362 0, .int 2 0, .int 0 0, .int 0 0, .int 3 0, .ref 544, .bool true, .int 181 0, .ref 545, .none, .ref 546, .ref 547, .ref 548, .int 1127 0, .int 362 0, .str "/claim/cut.py" 1128].toArray, #[]⟩) (.nil) (.nil)) (.nil)) (.node (gO (tree45 P) 421) (.node (⟨.type "tuple", none, .seq [].toArray 0, #[]⟩) (.nil) (.nil)) (.nil))) (.node (gO (tree20 P) 229) (.node (gO (tree33 P) 357) (.node (⟨.type "function", none, .func (fnG (clsS 45 20) "proc" "World.proc" 3 (.none) (.none) (.str "gemrows.world" 861) (.ref 612) 0), #[]⟩) (.nil) (.nil)) (.nil)) (.node (⟨.type "tuple", none, .seq [].toArray 0, #[]⟩) (.node (⟨.none, none, .fields [].toArray, #[]⟩) (.nil) (.nil)) (.nil))))) (.node (gO (tree20 P) 53) (.node (gO (tree20 P) 85) (.node (gO (tree20 P) 149) (.node (gO (tree33 P) 277) (.node (⟨.type "tuple", none, .seq [].toArray 0, #[]⟩) (.nil) (.nil)) (.nil)) (.node (gO (tree45 P) 405) (.node (⟨.type "code", none, .fields [.str "set_field" 1271, .str "World.set_field" 1272, .str "/claim/cut.py" 1273, .int 453 0, .int 4 0, .int 0 0, .int 0 0, .int 3 0, .ref 656, .bool true, .int 181 0, .ref 657, .none, .ref 658, .ref 659, .ref 660, .int 1278 0, .int 453 0, .str "/claim/cut.py" 1279].toArray, #[]⟩) (.nil) (.nil)) (.nil))) (.node (gO (tree20 P) 213) (.node (gO (tree33 P) 341) (.node (⟨.none, none, .func (fnG (clsS 45 18) "key_of" "World.key_of" 0 (.none) (.none) (.none) (.none) 0), #[]⟩) (.nil) (.nil)) (.nil)) (.node (⟨.none, none, .fields [].toArray, #[]⟩) (.node (⟨.type "function", none, .func (fnG (topS 47) "_law_box" "_law_box" 3 (.none) (.none) (.str "law_pq0507_01" 1367) (.ref 724) 0), #[]⟩) (.nil) (.nil)) (.nil)))) (.node (gO (tree20 P) 117) (.node (gO (tree20 P) 181) (.node (gO (tree33 P) 309) (.node (⟨.type "tuple", none, .seq [].toArray 0, #[]⟩) (.nil) (.nil)) (.nil)) (.node (gO (tree45 P) 437) (.node (⟨.type "tuple", none, .seq [.str "self" 1319, .str "module" 1320, .str "name" 1321].toArray 0, #[]⟩) (.nil) (.nil)) (.nil))) (.node (gO (tree20 P) 245) (.node (gO (tree33 P) 373) (.node (⟨.none, none, .fields [].toArray, #[]⟩) (.nil) (.nil)) (.nil)) (.node (⟨.type "code", none, .fields [.str "next_ident" 1060, .str "World.next_ident" 1061, .str "/claim/cut.py" 1062, .int 303 0, .int 1 0, .int 0 0, .int 0 0, .int 3 0, .ref 496, .bool true, .int 181 0, .ref 497, .none, .ref 498, .ref 499, .ref 500, .int 1064 0, .int 303 0, .str "/claim/cut.py" 1065].toArray, #[]⟩) (.node (⟨.type "code", none, .fields [.str "_law_value" 1419, .str "_law_value" 1420, .str "/claim/cut.py" 1421, .int 510 0, .int 3 0, .int 0 0, .int 0 0, .int 3 0, .ref 754, .bool true, .int 181 0, .ref 755, .none, .none, .none, .ref 756, .int 1422 0, .int 510 0, .str "/claim/cut.py" 1423].toArray, #[]⟩) (.nil) (.nil)) (.nil)))))) (.node (gO (tree20 P) 29) (.node (gO (tree20 P) 45) (.node (gO (tree20 P) 77) (.node (gO (tree20 P) 141) (.node (gO (tree20 P) 269) (.node (⟨.type "tuple", none, .seq [].toArray 0, #[]⟩) (.nil) (.nil)) (.nil)) (.node (gO (tree45 P) 397) (.node (⟨.none, none, .func (fnG (clsS 45 26) "need_thawed" "World.need_thawed" 0 (.none) (.none) (.none) (.none) 0), #[]⟩) (.nil) (.nil)) (.nil))) (.node (gO (tree20 P) 205) (.node (gO (tree33 P) 333) (.node (⟨.type "tuple", none, .seq [].toArray 0, #[]⟩) (.nil) (.nil)) (.nil)) (.node (⟨.type "builtin_function_or_method", none, .fields [.builtin "type.__prepare__", .type "type"].toArray, #[]⟩) (.node (⟨.type "super", none, .fields [.ref 714, .ref 714, .ref 714].toArray, #[]⟩) (.nil) (.nil)) (.nil)))) (.node (gO (tree20 P) 109) (.node (gO (tree20 P) 173) (.node (gO (tree33 P) 301) (.node (⟨.type "function", none, .func (fnG (clsS 45 12) "own_behind" "World.own_behind" 3 (.none) (.none) (.str "gemrows.world" 861) (.ref 556) 0), #[]⟩) (.nil) (.nil)) (.nil)) (.node (gO (tree45 P) 429) (.node (⟨.none, none, .fields [].toArray, #[]⟩) (.nil) (.nil)) (.nil))) (.node (gO (tree20 P) 237) (.node (gO (tree33 P) 365) (.node (⟨.type "tuple", none, .seq [].toArray 0, #[]⟩) (.nil) (.nil)) (.nil)) (.node (⟨.none, none, .func (fnG (clsS 45 3) "number" "World.number" 0 (.none) (.none) (.none) (.none) 0), #[]⟩) (.node (⟨.type "tuple", none, .seq [.str "box" 1410, .str "world" 1411, .str "way" 1412, .str "name" 1413, .str "number" 1414, .str "word1" 1415].toArray 0, #[]⟩) (.nil) (.nil)) (.nil))))) (.node (gO (tree20 P) 61) (.node (gO (tree20 P) 93) (.node (gO (tree20 P) 157) (.node (gO (tree33 P) 285) (.node (⟨.none, none, .func (fnG (clsS 45 10) "class_of" "World.class_of" 0 (.none) (.none) (.none) (.none) 0), #[]⟩) (.nil) (.nil)) (.nil)) (.node (gO (tree45 P) 413) (.node (⟨.type "function", none, .func (fnG (clsS 45 28) "describe" "World.describe" 3 (.none) (.none) (.str "gemrows.world" 861) (.ref 668) 0), #[]⟩) (.nil) (.nil)) (.nil))) (.node (gO (tree20 P) 221) (.node (gO (tree33 P) 349) (.node (⟨.type "code", none, .fields [.str "range_of" 1190, .str "World.range_of" 1191, .str "/claim/cut.py" 1192, .int 395 0, .int 4 0, .int 0 0, .int 0 0, .int 3 0, .ref 600, .bool true, .int 181 0, .ref 601, .none, .ref 602, .ref 603, .ref 604, .int 1199 0, .int 395 0, .str "/claim/cut.py" 1200].toArray, #[]⟩) (.nil) (.nil)) (.nil)) (.node (⟨.type "tuple", none, .seq [.str "self" 1041].toArray 0, #[]⟩) (.node (⟨.type "tuple", none, .seq [].toArray 0, #[]⟩) (.nil) (.nil)) (.nil)))) (.node (gO (tree20 P) 125) (.node (gO (tree20 P) 189) (.node (gO (tree33 P) 317) (.node (⟨.none, none, .fields [].toArray, #[]⟩) (.nil) (.nil)) (.nil)) (.node (gO (tree45 P) 445) (.node (⟨.type "tuple", none, .seq [].toArray 0, #[]⟩) (.nil) (.nil)) (.nil))) (.node (gO (tree20 P) 253) (.node (gO (tree45 P) 381) (.node (⟨.type "tuple", none, .seq [.str "self" 1248, .str "name" 1249, .str "message" 1250].toArray 0, #[]⟩) (.nil) (.nil)) (.nil)) (.node (⟨.type "function", none, .func (fnG (clsS 45 5) "ident" "World.ident" 3 (.none) (.none) (.str "gemrows.world" 861) (.ref 508) 0), #[]⟩) (.node (⟨.type "function", none, .func (fnG (topS 53) "_law_error" "_law_error" 3 (.none) (.none) (.str "law_pq0507_01" 1367) (.ref 764) 0), #[]⟩) (.nil) (.nil)) (.nil))))))))) (.node (boot_o_2 P) (.node (boot_o_4 P) (.node (boot_o_8 P) (.node (gO (tree20 P) 16) (.node (gO (tree20 P) 32) (.node (gO (tree20 P) 64) (.node (gO (tree20 P) 128) (.node (gO (tree20 P) 256) (.node (⟨.type "tuple", none, .seq [.str "self" 1079, .str "name" 1080, .str "found" 1081].toArray 0, #[]⟩) (.nil) (.nil)) (.node (⟨.none, none, .func (fnG (topS 54) "law" "law" 0 (.none) (.none) (.none) (.none) 0), #[]⟩) (.nil) (.nil))) (.node (gO (tree45 P) 384) (.node (⟨.type "code", none, .fields [.str "error" 1245, .str "World.error" 1246, .str "/claim/cut.py" 1247, .int 444 0, .int 3 0, .int 0 0, .int 0 0, .int 3 0, .ref 635, .bool true, .int 181 0, .ref 636, .none, .ref 637, .ref 638, .ref 639, .int 1251 0, .int 444 0, .str "/claim/cut.py" 1252].toArray, #[]⟩) (.nil) (.nil)) (.nil))) (.node (gO (tree20 P) 192) (.node (gO (tree33 P) 320) (.node (⟨.none, none, .func (fnG (clsS 45 15) "text" "World.text" 0 (.none) (.none) (.none) (.none) 0), #[]⟩) (.nil) (.nil)) (.nil)) (.node (gO (tree45 P) 448) (.node (⟨.type "function", none, .func (fnG (clsS 45 33) "constant_in" "World.constant_in" 3 (.none) (.none) (.str "gemrows.world" 861) (.ref 703) 0), #[]⟩) (.nil) (.nil)) (.nil)))) (.node (gO (tree20 P) 96) (.node (gO (tree20 P) 160) (.node (gO (tree33 P) 288) (.node (⟨.type "tuple", none, .seq [].toArray 0, #[]⟩) (.nil) (.nil)) (.nil)) (.node (gO (tree45 P) 416) (.node (⟨.type "tuple", none, .seq [.str "self" 1292, .str "module" 1293, .str "name" 1294].toArray 0, #[]⟩) (.nil) (.nil)) (.nil))) (.node (gO (tree20 P) 224) (.node (gO (tree33 P) 352) (.node (⟨.none, none, .fields [].toArray, #[]⟩) (.nil) (.nil)) (.nil)) (.node (⟨.type "code", none, .fields [.str "tick" 1038, .str "World.tick" 1039, .str "/claim/cut.py" 1040, .int 291 0, .int 1 0, .int 0 0, .int 0 0, .int 3 0, .ref 475, .bool true, .int 181 0, .ref 476, .none, .ref 477, .ref 478, .ref 479, .int 1042 0, .int 291 0, .str "/claim/cut.py" 1043].toArray, #[]⟩) (.node (⟨.type "tuple", none, .seq [].toArray 0, #[]⟩) (.nil) (.nil)) (.nil))))) (.node (gO (tree20 P) 48) (.node (gO (tree20 P) 80) (.node (gO (tree20 P) 144) (.node (gO (tree33 P) 272) (.node (⟨.type "function", none, .func (fnG (clsS 45 8) "give_own" "World.give_own" 3 (.none) (.none) (.str "gemrows.world" 861) (.ref 527) 0), #[]⟩) (.nil) (.nil)) (.nil)) (.node (gO (tree45 P) 400) (.node (⟨.type "tuple", none, .seq [].toArray 0, #[]⟩) (.nil) (.nil)) (.nil))) (.node (gO (tree20 P) 208) (.node (gO (tree33 P) 336) (.node (⟨.type "function", none, .func (fnG (clsS 45 17) "table_of" "World.table_of" 3 (.none) (.none) (.str "gemrows.world" 861) (.ref 591) 0), #[]⟩) (.nil) (.nil)) (.nil)) (.node (⟨.none, none, .fields [.int 271 0, .int 4 0, .ref 473, .int 291 0, .int 4 0, .ref 480, .int 296 0, .int 4 0, .ref 487, .int 299 0, .int 4 0, .ref 494, .int 303 0, .int 4 0, .ref 501, .int 307 0, .int 4 0, .ref 508, .int 323 0, .int 4 0, .ref 515, .int 327 0, .int 4 0, .ref 520, .int 340 0, .int 4 0, .ref 527, .int 344 0, .int 4 0, .ref 535, .int 353 0, .int 4 0, .ref 542, .int 362 0, .int 4 0, .ref 549, .int 365 0, .int 4 0, .ref 556, .int 368 0, .int 4 0, .ref 563, .int 373 0, .int 4 0, .ref 570, .int 376 0, .int 4 0, .ref 577, .int 379 0, .int 4 0, .ref 584, .int 382 0, .int 4 0, .ref 591, .int 388 0, .int 4 0, .ref 598, .int 395 0, .int 4 0, .ref 605, .int 404 0, .int 4 0, .ref 612, .int 408 0, .int 4 0, .ref 619, .int 434 0, .int 4 0, .ref 626, .int 441 0, .int 4 0, .ref 633, .int 444 0, .int 4 0, .ref 640, .int 447 0, .int 4 0, .ref 647, .int 450 0, .int 4 0, .ref 654, .int 453 0, .int 4 0, .ref 661, .int 456 0, .int 4 0, .ref 668, .int 459 0, .int 4 0, .ref 675, .int 462 0, .int 4 0, .ref 682, .int 465 0, .int 4 0, .ref 689, .int 468 0, .int 4 0, .ref 696, .int 471 0, .int 4 0, .ref 703, .int 474 0, .int 4 0, .ref 710].toArray, #[]⟩) (.node (⟨.none, none, .fields [].toArray, #[]⟩) (.nil) (.nil)) (.nil)))) (.node (gO (tree20 P) 112) (.node (gO (tree20 P) 176) (.node (gO (tree33 P) 304) (.node (⟨.type "tuple", none, .seq [.str "self" 1141, .str "module" 1142].toArray 0, #[]⟩) (.nil) (.nil)) (.nil)) (.node (gO (tree45 P) 432) (.node (⟨.none, none, .func (fnG (clsS 45 31) "constant" "World.constant" 0 (.none) (.none) (.none) (.none) 0), #[]⟩) (.nil) (.nil)) (.nil))) (.node (gO (tree20 P) 240) (.node (gO (tree33 P) 368) (.node (⟨.type "tuple", none, .seq [].toArray 0, #[]⟩) (.nil) (.nil)) (.nil)) (.node (⟨.type "tuple", none, .seq [].toArray 0, #[]⟩) (.node (⟨.type "code", none, .fields [.str "_law_key" 1407, .str "_law_key" 1408, .str "/claim/cut.py" 1409, .int 500 0, .int 2 0, .int 0 0, .int 0 0, .int 3 0, .ref 747, .bool true, .int 181 0, .ref 748, .none, .ref 749, .ref 750, .ref 751, .int 1416 0, .int 500 0, .str "/claim/cut.py" 1417].toArray, #[]⟩) (.nil) (.nil)) (.nil)))))) (.node (gO (tree20 P) 24) (.node (gO (tree20 P) 40) (.node (gO (tree20 P) 72) (.node (gO (tree20 P) 136) (.node (gO (tree20 P) 264) (.node (⟨.type "code", none, .fields [.str "make_builtin" 1085, .str "World.make_builtin" 1086, .str "/claim/cut.py" 1087, .int 327 0, .int 2 0, .int 0 0, .int 0 0, .int 3 0, .ref 517, .bool true, .int 181 0, .ref 518, .none, .none, .none, .ref 519, .int 1088 0, .int 327 0, .str "/claim/cut.py" 1089].toArray, #[]⟩) (.nil) (.nil)) (.nil)) (.node (gO (tree45 P) 392) (.node (⟨.type "function", none, .func (fnG (clsS 45 25) "fail" "World.fail" 3 (.none) (.none) (.str "gemrows.world" 861) (.ref 647) 0), #[]⟩) (.nil) (.nil)) (.nil))) (.node (gO (tree20 P) 200) (.node (gO (tree33 P) 328) (.node (⟨.type "code", none, .fields [.str "list_of" 1162, .str "World.list_of" 1163, .str "/claim/cut.py" 1164, .int 379 0, .int 2 0, .int 0 0, .int 0 0, .int 3 0, .ref 579, .bool true, .int 181 0, .ref 580, .none, .ref 581, .ref 582, .ref 583, .int 1167 0, .int 379 0, .str "/claim/cut.py" 1168].toArray, #[]⟩) (.nil) (.nil)) (.nil)) (.node (gO (tree45 P) 456) (.node (⟨.type "tuple", none, .seq [.str "const_version" 1344, .str "globals" 1345, .str "is_ready" 1346, .str "last_ident" 1347, .str "last_number" 1348, .str "made" 1349, .str "main" 1350, .str "most" 1351, .str "natives" 1352, .str "out" 1353, .str "prelude" 1354, .str "read" 1355, .str "symbol_idents" 1356, .str "taken" 1357, .str "version" 1358].toArray 0, #[]⟩) (.nil) (.nil)) (.nil)))) (.node (gO (tree20 P) 104) (.node (gO (tree20 P) 168) (.node (gO (tree33 P) 296) (.node (⟨.none, none, .fields [].toArray, #[]⟩) (.nil) (.nil)) (.nil)) (.node (gO (tree45 P) 424) (.node (⟨.type "tuple", none, .seq [].toArray 0, #[]⟩) (.nil) (.nil)) (.nil))) (.node (gO (tree20 P) 232) (.node (gO (tree33 P) 360) (.node (⟨.type "tuple", none, .seq [.str "self" 1222, .str "module" 1223, .str "root" 1224, .str "number" 1225].toArray 0, #[]⟩) (.nil) (.nil)) (.nil)) (.node (⟨.type "function", none, .func (fnG (clsS 45 2) "write" "World.write" 3 (.none) (.none) (.str "gemrows.world" 861) (.ref 487) 0), #[]⟩) (.node (⟨.none, none, .func (fnG (topS 50) "_law_word" "_law_word" 0 (.none) (.none) (.none) (.none) 0), #[]⟩) (.nil) (.nil)) (.nil))))) (.node (gO (tree20 P) 56) (.node (gO (tree20 P) 88) (.node (gO (tree20 P) 152) (.node (gO (tree33 P) 280) (.node (⟨.type "function", none, .func (fnG (clsS 45 9) "new_module" "World.new_module" 3 (.ref 529) (.none) (.str "gemrows.world" 861) (.ref 535) 0), #[]⟩) (.nil) (.nil)) (.nil)) (.node (gO (tree45 P) 408) (.node (⟨.none, none, .fields [].toArray, #[]⟩) (.nil) (.nil)) (.nil))) (.node (gO (tree20 P) 216) (.node (gO (tree33 P) 344) (.node (⟨.type "tuple", none, .seq [].toArray 0, #[]⟩) (.nil) (.nil)) (.nil)) (.node (⟨.none, none, .func (fnG (clsS 45 0) "__init__" "World.__init__" 0 (.none) (.none) (.none) (.none) 0), #[]⟩) (.node (⟨.type "tuple", none, .seq [.str "box" 1382, .str "many" 1383, .str "digit" 1384, .str "mix" 1385].toArray 0, #[]⟩) (.nil) (.nil)) (.nil)))) (.node (gO (tree20 P) 120) (.node (gO (tree20 P) 184) (.node (gO (tree33 P) 312) (.node (⟨.type "tuple", none, .seq [].toArray 0, #[]⟩) (.nil) (.nil)) (.nil)) (.node (gO (tree45 P) 440) (.node (⟨.type "code", none, .fields [.str "find_in" 1316, .str "World.find_in" 1317, .str "/claim/cut.py" 1318, .int 468 0, .int 3 0, .int 0 0, .int 0 0, .int 3 0, .ref 691, .bool true, .int 181 0, .ref 692, .none, .ref 693, .ref 694, .ref 695, .int 1322 0, .int 468 0, .str "/claim/cut.py" 1323].toArray, #[]⟩) (.nil) (.nil)) (.nil))) (.node (gO (tree20 P) 248) (.node (gO (tree45 P) 376) (.node (⟨.none, none, .func (fnG (clsS 45 23) "spread" "World.spread" 0 (.none) (.none) (.none) (.none) 0), #[]⟩) (.nil) (.nil)) (.nil)) (.node (⟨.none, none, .fields [].toArray, #[]⟩) (.node (⟨.none, none, .fields [].toArray, #[]⟩) (.nil) (.nil)) (.nil))))))) (.node (⟨.none, none, .fields [.int 1 0, .int 0 0, .ref 20, .int 8 0, .int 0 0, .ref 29, .int 17 0, .int 0 0, .ref 50, .int 22 0, .int 0 0, .ref 70, .int 27 0, .int 0 0, .ref 90, .int 47 0, .int 0 0, .ref 128, .int 54 0, .int 0 0, .ref 148, .int 67 0, .int 0 0, .ref 169, .int 73 0, .int 0 0, .ref 189, .int 81 0, .int 0 0, .ref 209, .int 99 0, .int 0 0, .ref 236, .int 107 0, .int 0 0, .ref 243, .int 112 0, .int 0 0, .ref 249, .int 123 0, .int 0 0, .ref 256, .int 130 0, .int 0 0, .ref 263, .int 132 0, .int 0 0, .ref 270, .int 140 0, .int 0 0, .ref 277, .int 148 0, .int 0 0, .ref 284, .int 158 0, .int 0 0, .ref 289, .int 161 0, .int 0 0, .ref 296, .int 163 0, .int 0 0, .ref 303, .int 167 0, .int 0 0, .ref 310, .int 171 0, .int 0 0, .ref 315, .int 192 0, .int 0 0, .ref 322, .int 198 0, .int 0 0, .ref 330, .int 210 0, .int 0 0, .ref 337, .int 220 0, .int 0 0, .ref 365, .int 225 0, .int 0 0, .ref 372, .int 231 0, .int 0 0, .ref 379, .int 236 0, .int 0 0, .ref 400, .int 241 0, .int 0 0, .ref 419, .int 247 0, .int 0 0, .ref 438, .int 249 0, .int 0 0, .ref 445, .int 269 0, .int 0 0, .ref 465, .int 477 0, .int 0 0, .ref 724, .int 484 0, .int 0 0, .ref 731, .int 492 0, .int 0 0, .ref 738, .int 498 0, .int 0 0, .ref 745, .int 500 0, .int 0 0, .ref 752, .int 510 0, .int 0 0, .ref 757, .int 547 0, .int 0 0, .ref 764, .int 565 0, .int 0 0, .ref 769].toArray, #[]⟩) (.node (gO (tree20 P) 20) (.node (gO (tree20 P) 36) (.node (gO (tree20 P) 68) (.node (gO (tree20 P) 132) (.node (gO (tree20 P) 260) (.node (⟨.type "function", none, .func (fnG (clsS 45 6) "builtin" "World.builtin" 3 (.none) (.none) (.str "gemrows.world" 861) (.ref 515) 0), #[]⟩) (.nil) (.nil)) (.nil)) (.node (gO (tree45 P) 388) (.node (⟨.type "tuple", none, .seq [.str "self" 1257, .str "name" 1258, .str "message" 1259].toArray 0, #[]⟩) (.nil) (.nil)) (.nil))) (.node (gO (tree20 P) 196) (.node (gO (tree33 P) 324) (.node (⟨.none, none, .fields [].toArray, #[]⟩) (.nil) (.nil)) (.nil)) (.node (gO (tree45 P) 452) (.node (⟨.type "tuple", none, .seq [].toArray 0, #[]⟩) (.nil) (.nil)) (.nil)))) (.node (gO (tree20 P) 100) (.node (gO (tree20 P) 164) (.node (gO (tree33 P) 292) (.node (⟨.none, none, .func (fnG (clsS 45 11) "own_of" "World.own_of" 0 (.none) (.none) (.none) (.none) 0), #[]⟩) (.nil) (.nil)) (.nil)) (.node (gO (tree45 P) 420) (.node (⟨.type "function", none, .func (fnG (clsS 45 29) "own_constant" "World.own_constant" 3 (.none) (.none) (.str "gemrows.world" 861) (.ref 675) 0), #[]⟩) (.nil) (.nil)) (.nil))) (.node (gO (tree20 P) 228) (.node (gO (tree33 P) 356) (.node (⟨.type "code", none, .fields [.str "proc" 1202, .str "World.proc" 1203, .str "/claim/cut.py" 1204, .int 404 0, .int 10 0, .int 0 0, .int 0 0, .int 3 0, .ref 607, .bool true, .int 181 0, .ref 608, .none, .ref 609, .ref 610, .ref 611, .int 1216 0, .int 404 0, .str "/claim/cut.py" 1217].toArray, #[]⟩) (.nil) (.nil)) (.nil)) (.node (⟨.type "tuple", none, .seq [.str "self" 1048, .str "text" 1049].toArray 0, #[]⟩) (.node (⟨.type "tuple", none, .seq [].toArray 0, #[]⟩) (.nil) (.nil)) (.nil))))) (.node (gO (tree20 P) 52) (.node (gO (tree20 P) 84) (.node (gO (tree20 P) 148) (.node (gO (tree33 P) 276) (.node (⟨.type "tuple", none, .seq [.str "self" 1102, .str "name" 1103, .str "is_class" 1104, .str "parent" 1105, .str "outer" 1106, .str "attached" 1107, .str "owner" 1108, .str "stands" 1109, .str "found" 1110].toArray 0, #[]⟩) (.nil) (.nil)) (.nil)) (.node (gO (tree45 P) 404) (.node (⟨.none, none, .func (fnG (clsS 45 27) "set_field" "World.set_field" 0 (.none) (.none) (.none) (.none) 0), #[]⟩) (.nil) (.nil)) (.nil))) (.node (gO (tree20 P) 212) (.node (gO (tree33 P) 340) (.node (⟨.type "tuple", none, .seq [].toArray 0, #[]⟩) (.nil) (.nil)) (.nil)) (.node (⟨.type "tuple", none, .seq [].toArray 0, #[]⟩) (.node (⟨.type "code", none, .fields [.str "_law_box" 1369, .str "_law_box" 1370, .str "/claim/cut.py" 1371, .int 477 0, .int 1 0, .int 0 0, .int 0 0, .int 3 0, .ref 719, .bool true, .int 181 0, .ref 720, .none, .ref 721, .ref 722, .ref 723, .int 1376 0, .int 477 0, .str "/claim/cut.py" 1377].toArray, #[]⟩) (.nil) (.nil)) (.nil)))) (.node (gO (tree20 P) 116) (.node (gO (tree20 P) 180) (.node (gO (tree33 P) 308) (.node (⟨.type "function", none, .func (fnG (clsS 45 13) "root_of" "World.root_of" 3 (.none) (.none) (.str "gemrows.world" 861) (.ref 563) 0), #[]⟩) (.nil) (.nil)) (.nil)) (.node (gO (tree45 P) 436) (.node (⟨.none, none, .fields [].toArray, #[]⟩) (.nil) (.nil)) (.nil))) (.node (gO (tree20 P) 244) (.node (gO (tree33 P) 372) (.node (⟨.type "tuple", none, .seq [].toArray 0, #[]⟩) (.nil) (.nil)) (.nil)) (.node (⟨.none, none, .func (fnG (clsS 45 4) "next_ident" "World.next_ident" 0 (.none) (.none) (.none) (.none) 0), #[]⟩) (.node (⟨.none, none, .func (fnG (topS 52) "_law_value" "_law_value" 0 (.none) (.none) (.none) (.none) 0), #[]⟩) (.nil) (.nil)) (.nil)))))) (.node (gO (tree20 P) 28) (.node (gO (tree20 P) 44) (.node (gO (tree20 P) 76) (.node (gO (tree20 P) 140) (.node (gO (tree20 P) 268) (.node (⟨.type "tuple", none, .seq [.str "self" 1094, .str "name" 1095].toArray 0, #[]⟩) (.nil) (.nil)) (.nil)) (.node (gO (tree45 P) 396) (.node (⟨.type "tuple", none, .seq [].toArray 0, #[]⟩) (.nil) (.nil)) (.nil))) (.node (gO (tree20 P) 204) (.node (gO (tree33 P) 332) (.node (⟨.type "tuple", none, .seq [.str "self" 1173, .str "pairs" 1174, .str "found" 1175, .str "key" 1176, .str "value" 1177].toArray 0, #[]⟩) (.nil) (.nil)) (.nil)) (.node (⟨.type "tuple", none, .seq [].toArray 0, #[]⟩) (.node (⟨.type "getset_descriptor", none, .fields [.str "__weakref__" 1362, .ref 714, .builtin "ExceptionGroup.__weakref__", .none].toArray, #[]⟩) (.nil) (.nil)) (.nil)))) (.node (gO (tree20 P) 108) (.node (gO (tree20 P) 172) (.node (gO (tree33 P) 300) (.node (⟨.type "code", none, .fields [.str "own_behind" 1130, .str "World.own_behind" 1131, .str "/claim/cut.py" 1132, .int 365 0, .int 2 0, .int 0 0, .int 0 0, .int 3 0, .ref 551, .bool true, .int 181 0, .ref 552, .none, .ref 553, .ref 554, .ref 555, .int 1135 0, .int 365 0, .str "/claim/cut.py" 1136].toArray, #[]⟩) (.nil) (.nil)) (.nil)) (.node (gO (tree45 P) 428) (.node (⟨.type "tuple", none, .seq [].toArray 0, #[]⟩) (.nil) (.nil)) (.nil))) (.node (gO (tree20 P) 236) (.node (gO (tree33 P) 364) (.node (⟨.type "function", none, .func (fnG (clsS 45 21) "thing" "World.thing" 3 (.none) (.none) (.str "gemrows.world" 861) (.ref 619) 0), #[]⟩) (.nil) (.nil)) (.nil)) (.node (⟨.type "tuple", none, .seq [].toArray 0, #[]⟩) (.node (⟨.none, none, .fields [].toArray, #[]⟩) (.nil) (.nil)) (.nil))))) (.node (gO (tree20 P) 60) (.node (gO (tree20 P) 92) (.node (gO (tree20 P) 156) (.node (gO (tree33 P) 284) (.node (⟨.type "tuple", none, .seq [].toArray 0, #[]⟩) (.nil) (.nil)) (.nil)) (.node (gO (tree45 P) 412) (.node (⟨.type "code", none, .fields [.str "describe" 1281, .str "World.describe" 1282, .str "/claim/cut.py" 1283, .int 456 0, .int 2 0, .int 0 0, .int 0 0, .int 3 0, .ref 663, .bool true, .int 181 0, .ref 664, .none, .ref 665, .ref 666, .ref 667, .int 1286 0, .int 456 0, .str "/claim/cut.py" 1287].toArray, #[]⟩) (.nil) (.nil)) (.nil))) (.node (gO (tree20 P) 220) (.node (gO (tree33 P) 348) (.node (⟨.none, none, .func (fnG (clsS 45 19) "range_of" "World.range_of" 0 (.none) (.none) (.none) (.none) 0), #[]⟩) (.nil) (.nil)) (.nil)) (.node (⟨.none, none, .fields [].toArray, #[]⟩) (.node (⟨.type "function", none, .func (fnG (topS 48) "_law_take" "_law_take" 3 (.none) (.none) (.str "law_pq0507_01" 1367) (.ref 731) 0), #[]⟩) (.nil) (.nil)) (.nil)))) (.node (gO (tree20 P) 124) (.node (gO (tree20 P) 188) (.node (gO (tree33 P) 316) (.node (⟨.type "tuple", none, .seq [].toArray 0, #[]⟩) (.nil) (.nil)) (.nil)) (.node (gO (tree45 P) 444) (.node (⟨.type "tuple", none, .seq [.str "self" 1328, .str "module" 1329, .str "name" 1330].toArray 0, #[]⟩) (.nil) (.nil)) (.nil))) (.node (gO (tree20 P) 252) (.node (gO (tree45 P) 380) (.node (⟨.none, none, .fields [].toArray, #[]⟩) (.nil) (.nil)) (.nil)) (.node (⟨.type "code", none, .fields [.str "ident" 1067, .str "World.ident" 1068, .str "/claim/cut.py" 1069, .int 307 0, .int 2 0, .int 0 0, .int 0 0, .int 3 0, .ref 503, .bool true, .int 181 0, .ref 504, .none, .ref 505, .ref 506, .ref 507, .int 1073 0, .int 307 0, .str "/claim/cut.py" 1074].toArray, #[]⟩) (.node (⟨.type "code", none, .fields [.str "_law_error" 1425, .str "_law_error" 1426, .str "/claim/cut.py" 1427, .int 547 0, .int 2 0, .int 0 0, .int 0 0, .int 3 0, .ref 759, .bool true, .int 181 0, .ref 760, .none, .ref 761, .ref 762, .ref 763, .int 1436 0, .int 547 0, .str "/claim/cut.py" 1437].toArray, #[]⟩) (.nil) (.nil)) (.nil)))))))) (.node (boot_o_6 P) (.node (boot_o_10 P) (.node (gO (tree20 P) 18) (.node (gO (tree20 P) 34) (.node (gO (tree20 P) 66) (.node (gO (tree20 P) 130) (.node (gO (tree20 P) 258) (.node (⟨.none, none, .func (fnG (clsS 45 6) "builtin" "World.builtin" 0 (.none) (.none) (.none) (.none) 0), #[]⟩) (.nil) (.nil)) (.node (⟨.type "function", none, .func (fnG (topS 54) "law" "law" 3 (.none) (.none) (.str "law_pq0507_01" 1367) (.ref 769) 0), #[]⟩) (.nil) (.nil))) (.node (gO (tree45 P) 386) (.node (⟨.type "tuple", none, .seq [].toArray 0, #[]⟩) (.nil) (.nil)) (.nil))) (.node (gO (tree20 P) 194) (.node (gO (tree33 P) 322) (.node (⟨.type "function", none, .func (fnG (clsS 45 15) "text" "World.text" 3 (.none) (.none) (.str "gemrows.world" 861) (.ref 577) 0), #[]⟩) (.nil) (.nil)) (.nil)) (.node (gO (tree45 P) 450) (.node (⟨.none, none, .fields [].toArray, #[]⟩) (.nil) (.nil)) (.nil)))) (.node (gO (tree20 P) 98) (.node (gO (tree20 P) 162) (.node (gO (tree33 P) 290) (.node (⟨.type "tuple", none, .seq [.str "self" 1125, .str "value" 1126].toArray 0, #[]⟩) (.nil) (.nil)) (.nil)) (.node (gO (tree45 P) 418) (.node (⟨.none, none, .func (fnG (clsS 45 29) "own_constant" "World.own_constant" 0 (.none) (.none) (.none) (.none) 0), #[]⟩) (.nil) (.nil)) (.nil))) (.node (gO (tree20 P) 226) (.node (gO (tree33 P) 354) (.node (⟨.type "tuple", none, .seq [].toArray 0, #[]⟩) (.nil) (.nil)) (.nil)) (.node (⟨.type "tuple", none, .seq [].toArray 0, #[]⟩) (.node (⟨.type "code", none, .fields [.str "_law_quoted" 1389, .str "_law_quoted" 1390, .str "/claim/cut.py" 1391, .int 492 0, .int 1 0, .int 0 0, .int 0 0, .int 3 0, .ref 733, .bool true, .int 181 0, .ref 734, .none, .ref 735, .ref 736, .ref 737, .int 1397 0, .int 492 0, .str "/claim/cut.py" 1398].toArray, #[]⟩) (.nil) (.nil)) (.nil))))) (.node (gO (tree20 P) 50) (.node (gO (tree20 P) 82) (.node (gO (tree20 P) 146) (.node (gO (tree33 P) 274) (.node (⟨.type "tuple", none, .seq [].toArray 0, #[]⟩) (.nil) (.nil)) (.nil)) (.node (gO (tree45 P) 402) (.node (⟨.type "tuple", none, .seq [.str "self" 1274, .str "value" 1275, .str "name" 1276, .str "item" 1277].toArray 0, #[]⟩) (.nil) (.nil)) (.nil))) (.node (gO (tree20 P) 210) (.node (gO (tree33 P) 338) (.node (⟨.none, none, .fields [].toArray, #[]⟩) (.nil) (.nil)) (.nil)) (.node (⟨.type "frame", none, .plain, [some (.ref 465), some (.ref 3), some (.ref 462), none, some (.str "gemrows.world" 861), none, some (.ref 0)].toArray⟩) (.node (⟨.type "tuple", none, .seq [].toArray 0, #[]⟩) (.nil) (.nil)) (.nil)))) (.node (gO (tree20 P) 114) (.node (gO (tree20 P) 178) (.node (gO (tree33 P) 306) (.node (⟨.none, none, .func (fnG (clsS 45 13) "root_of" "World.root_of" 0 (.none) (.none) (.none) (.none) 0), #[]⟩) (.nil) (.nil)) (.nil)) (.node (gO (tree45 P) 434) (.node (⟨.type "function", none, .func (fnG (clsS 45 31) "constant" "World.constant" 3 (.none) (.none) (.str "gemrows.world" 861) (.ref 689) 0), #[]⟩) (.nil) (.nil)) (.nil))) (.node (gO (tree20 P) 242) (.node (gO (tree33 P) 370) (.node (⟨.type "code", none, .fields [.str "is_error_class" 1229, .str "World.is_error_class" 1230, .str "/claim/cut.py" 1231, .int 434 0, .int 2 0, .int 0 0, .int 0 0, .int 3 0, .ref 621, .bool true, .int 181 0, .ref 622, .none, .ref 623, .ref 624, .ref 625, .int 1234 0, .int 434 0, .str "/claim/cut.py" 1235].toArray, #[]⟩) (.nil) (.nil)) (.nil)) (.node (⟨.type "tuple", none, .seq [.str "self" 1063].toArray 0, #[]⟩) (.node (⟨.type "tuple", none, .seq [].toArray 0, #[]⟩) (.nil) (.nil)) (.nil)))))) (.node (gO (tree20 P) 26) (.node (gO (tree20 P) 42) (.node (gO (tree20 P) 74) (.node (gO (tree20 P) 138) (.node (gO (tree20 P) 266) (.node (⟨.type "tuple", none, .seq [].toArray 0, #[]⟩) (.nil) (.nil)) (.nil)) (.node (gO (tree45 P) 394) (.node (⟨.none, none, .fields [].toArray, #[]⟩) (.nil) (.nil)) (.nil))) (.node (gO (tree20 P) 202) (.node (gO (tree33 P) 330) (.node (⟨.type "tuple", none, .seq [].toArray 0, #[]⟩) (.nil) (.nil)) (.nil)) (.node (gO (tree45 P) 458) (.node (⟨.type "type", none, .cls ({ name := Str.ofString "World", bases := [Value.type "object"], mro := [Value.ref 714, Value.type "object"], ns := 713, qualname := Str.ofString "World" }), [none, none, some (.str "World" 1013), some (.str "World" 1021), some (.builtin "object.__new__"), some (.bool true)].toArray⟩) (.nil) (.nil)) (.nil)))) (.node (gO (tree20 P) 106) (.node (gO (tree20 P) 170) (.node (gO (tree33 P) 298) (.node (⟨.type "tuple", none, .seq [].toArray 0, #[]⟩) (.nil) (.nil)) (.nil)) (.node (gO (tree45 P) 426) (.node (⟨.type "code", none, .fields [.str "find_constant" 1298, .str "World.find_constant" 1299, .str "/claim/cut.py" 1300, .int 462 0, .int 3 0, .int 0 0, .int 0 0, .int 3 0, .ref 677, .bool true, .int 181 0, .ref 678, .none, .ref 679, .ref 680, .ref 681, .int 1304 0, .int 462 0, .str "/claim/cut.py" 1305].toArray, #[]⟩) (.nil) (.nil)) (.nil))) (.node (gO (tree20 P) 234) (.node (gO (tree33 P) 362) (.node (⟨.none, none, .func (fnG (clsS 45 21) "thing" "World.thing" 0 (.none) (.none) (.none) (.none) 0), #[]⟩) (.nil) (.nil)) (.nil)) (.node (⟨.none, none, .fields [].toArray, #[]⟩) (.node (⟨.type "function", none, .func (fnG (topS 50) "_law_word" "_law_word" 3 (.none) (.none) (.str "law_pq0507_01" 1367) (.ref 745) 0), #[]⟩) (.nil) (.nil)) (.nil))))) (.node (gO (tree20 P) 58) (.node (gO (tree20 P) 90) (.node (gO (tree20 P) 154) (.node (gO (tree33 P) 282) (.node (⟨.none, none, .fields [].toArray, #[]⟩) (.nil) (.nil)) (.nil)) (.node (gO (tree45 P) 410) (.node (⟨.type "tuple", none, .seq [].toArray 0, #[]⟩) (.nil) (.nil)) (.nil))) (.node (gO (tree20 P) 218) (.node (gO (tree33 P) 346) (.node (⟨.type "tuple", none, .seq [.str "self" 1193, .str "first" 1194, .str "last" 1195, .str "is_open" 1196, .str "is_odd" 1197, .str "found" 1198].toArray 0, #[]⟩) (.nil) (.nil)) (.nil)) (.node (⟨.type "function", none, .func (fnG (clsS 45 0) "__init__" "World.__init__" 3 (.ref 467) (.none) (.str "gemrows.world" 861) (.ref 473) 0), #[]⟩) (.node (⟨.none, none, .func (fnG (topS 48) "_law_take" "_law_take" 0 (.none) (.none) (.none) (.none) 0), #[]⟩) (.nil) (.nil)) (.nil)))) (.node (gO (tree20 P) 122) (.node (gO (tree20 P) 186) (.node (gO (tree33 P) 314) (.node (⟨.type "code", none, .fields [.str "real_class" 1146, .str "World.real_class" 1147, .str "/claim/cut.py" 1148, .int 373 0, .int 2 0, .int 0 0, .int 0 0, .int 3 0, .ref 565, .bool true, .int 181 0, .ref 566, .none, .ref 567, .ref 568, .ref 569, .int 1151 0, .int 373 0, .str "/claim/cut.py" 1152].toArray, #[]⟩) (.nil) (.nil)) (.nil)) (.node (gO (tree45 P) 442) (.node (⟨.type "tuple", none, .seq [].toArray 0, #[]⟩) (.nil) (.nil)) (.nil))) (.node (gO (tree20 P) 250) (.node (gO (tree45 P) 378) (.node (⟨.type "function", none, .func (fnG (clsS 45 23) "spread" "World.spread" 3 (.none) (.none) (.str "gemrows.world" 861) (.ref 633) 0), #[]⟩) (.nil) (.nil)) (.nil)) (.node (⟨.type "tuple", none, .seq [].toArray 0, #[]⟩) (.node (⟨.type "tuple", none, .seq [].toArray 0, #[]⟩) (.nil) (.nil)) (.nil))))))) (.node (o14) (.node (gO (tree20 P) 22) (.node (gO (tree20 P) 38) (.node (gO (tree20 P) 70) (.node (gO (tree20 P) 134) (.node (gO (tree20 P) 262) (.node (⟨.none, none, .fields [].toArray, #[]⟩) (.nil) (.nil)) (.nil)) (.node (gO (tree45 P) 390) (.node (⟨.none, none, .func (fnG (clsS 45 25) "fail" "World.fail" 0 (.none) (.none) (.none) (.none) 0), #[]⟩) (.nil) (.nil)) (.nil))) (.node (gO (tree20 P) 198) (.node (gO (tree33 P) 326) (.node (⟨.type "tuple", none, .seq [].toArray 0, #[]⟩) (.nil) (.nil)) (.nil)) (.node (gO (tree45 P) 454) (.node (⟨.type "code", none, .fields [.str "set_constant" 1334, .str "World.set_constant" 1335, .str "/claim/cut.py" 1336, .int 474 0, .int 4 0, .int 0 0, .int 0 0, .int 3 0, .ref 705, .bool true, .int 181 0, .ref 706, .none, .ref 707, .ref 708, .ref 709, .int 1341 0, .int 474 0, .str "/claim/cut.py" 1342].toArray, #[]⟩) (.nil) (.nil)) (.nil)))) (.node (gO (tree20 P) 102) (.node (gO (tree20 P) 166) (.node (gO (tree33 P) 294) (.node (⟨.type "function", none, .func (fnG (clsS 45 11) "own_of" "World.own_of" 3 (.none) (.none) (.str "gemrows.world" 861) (.ref 549) 0), #[]⟩) (.nil) (.nil)) (.nil)) (.node (gO (tree45 P) 422) (.node (⟨.none, none, .fields [].toArray, #[]⟩) (.nil) (.nil)) (.nil))) (.node (gO (tree20 P) 230) (.node (gO (tree33 P) 358) (.node (⟨.type "tuple", none, .seq [].toArray 0, #[]⟩) (.nil) (.nil)) (.nil)) (.node (⟨.none, none, .func (fnG (clsS 45 2) "write" "World.write" 0 (.none) (.none) (.none) (.none) 0), #[]⟩) (.node (⟨.type "tuple", none, .seq [.str "box" 1403].toArray 0, #[]⟩) (.nil) (.nil)) (.nil))))) (.node (gO (tree20 P) 54) (.node (gO (tree20 P) 86) (.node (gO (tree20 P) 150) (.node (gO (tree33 P) 278) (.node (⟨.none, none, .func (fnG (clsS 45 9) "new_module" "World.new_module" 0 (.none) (.none) (.none) (.none) 0), #[]⟩) (.nil) (.nil)) (.nil)) (.node (gO (tree45 P) 406) (.node (⟨.type "function", none, .func (fnG (clsS 45 27) "set_field" "World.set_field" 3 (.none) (.none) (.str "gemrows.world" 861) (.ref 661) 0), #[]⟩) (.nil) (.nil)) (.nil))) (.node (gO (tree20 P) 214) (.node (gO (tree33 P) 342) (.node (⟨.type "code", none, .fields [.str "key_of" 1181, .str "World.key_of" 1182, .str "/claim/cut.py" 1183, .int 388 0, .int 2 0, .int 0 0, .int 0 0, .int 3 0, .ref 593, .bool true, .int 181 0, .ref 594, .none, .ref 595, .ref 596, .ref 597, .int 1187 0, .int 388 0, .str "/claim/cut.py" 1188].toArray, #[]⟩) (.nil) (.nil)) (.nil)) (.node (⟨.type "tuple", none, .seq [.str "self" 1029, .str "natives" 1030, .str "prelude" 1031, .str "read" 1032, .str "most" 1033, .str "name" 1034].toArray 0, #[]⟩) (.node (⟨.type "tuple", none, .seq [].toArray 0, #[]⟩) (.nil) (.nil)) (.nil)))) (.node (gO (tree20 P) 118) (.node (gO (tree20 P) 182) (.node (gO (tree33 P) 310) (.node (⟨.none, none, .fields [].toArray, #[]⟩) (.nil) (.nil)) (.nil)) (.node (gO (tree45 P) 438) (.node (⟨.type "tuple", none, .seq [].toArray 0, #[]⟩) (.nil) (.nil)) (.nil))) (.node (gO (tree20 P) 246) (.node (gO (tree45 P) 374) (.node (⟨.type "tuple", none, .seq [.str "self" 1240, .str "value" 1241].toArray 0, #[]⟩) (.nil) (.nil)) (.nil)) (.node (⟨.type "function", none, .func (fnG (clsS 45 4) "next_ident" "World.next_ident" 3 (.none) (.none) (.str "gemrows.world" 861) (.ref 501) 0), #[]⟩) (.node (⟨.type "function", none, .func (fnG (topS 52) "_law_value" "_law_value" 3 (.none) (.none) (.str "law_pq0507_01" 1367) (.ref 757) 0), #[]⟩) (.nil) (.nil)) (.nil)))))) (.node (gO (tree20 P) 30) (.node (gO (tree20 P) 46) (.node (gO (tree20 P) 78) (.node (gO (tree20 P) 142) (.node (gO (tree20 P) 270) (.node (⟨.none, none, .func (fnG (clsS 45 8) "give_own" "World.give_own" 0 (.none) (.none) (.none) (.none) 0), #[]⟩) (.nil) (.nil)) (.nil)) (.node (gO (tree45 P) 398) (.node (⟨.type "code", none, .fields [.str "need_thawed" 1263, .str "World.need_thawed" 1264, .str "/claim/cut.py" 1265, .int 450 0, .int 2 0, .int 0 0, .int 0 0, .int 3 0, .ref 649, .bool true, .int 181 0, .ref 650, .none, .ref 651, .ref 652, .ref 653, .int 1268 0, .int 450 0, .str "/claim/cut.py" 1269].toArray, #[]⟩) (.nil) (.nil)) (.nil))) (.node (gO (tree20 P) 206) (.node (gO (tree33 P) 334) (.node (⟨.none, none, .func (fnG (clsS 45 17) "table_of" "World.table_of" 0 (.none) (.none) (.none) (.none) 0), #[]⟩) (.nil) (.nil)) (.nil)) (.node (kdict P (.type "dict") none (([("__module__", 1020, .str "gemrows.world" 861), ("__qualname__", 1022, .str "World" 1021), ("__firstlineno__", 1024, .int 269 1023), ("__init__", 1037, .ref 474), ("tick", 1044, .ref 481), ("write", 1052, .ref 488), ("number", 1059, .ref 495), ("next_ident", 1066, .ref 502), ("ident", 1075, .ref 509), ("builtin", 1084, .ref 516), ("make_builtin", 1090, .ref 521), ("give_own", 1098, .ref 528), ("new_module", 1113, .ref 536), ("class_of", 1121, .ref 543), ("own_of", 1129, .ref 550), ("own_behind", 1137, .ref 557), ("root_of", 1145, .ref 564), ("real_class", 1153, .ref 571), ("text", 1161, .ref 578), ("list_of", 1169, .ref 585)] : List DRow) ++ ([("table_of", 1180, .ref 592), ("key_of", 1189, .ref 599), ("range_of", 1201, .ref 606), ("proc", 1218, .ref 613), ("thing", 1228, .ref 620), ("is_error_class", 1236, .ref 627), ("spread", 1244, .ref 634), ("error", 1253, .ref 641), ("fail", 1262, .ref 648), ("need_thawed", 1270, .ref 655), ("set_field", 1280, .ref 662), ("describe", 1288, .ref 669), ("own_constant", 1297, .ref 676), ("find_constant", 1306, .ref 683), ("constant", 1315, .ref 690), ("find_in", 1324, .ref 697), ("constant_in", 1333, .ref 704), ("set_constant", 1343, .ref 711), ("__static_attributes__", 1359, .ref 712)] : List DRow)) 39 #[]) (.node (⟨.type "builtin_function_or_method", none, .fields [.builtin "object.__init_subclass__", .ref 714].toArray, #[]⟩) (.nil) (.nil)) (.nil)))) (.node (gO (tree20 P) 110) (.node (gO (tree20 P) 174) (.node (gO (tree33 P) 302) (.node (⟨.type "tuple", none, .seq [].toArray 0, #[]⟩) (.nil) (.nil)) (.nil)) (.node (gO (tree45 P) 430) (.node (⟨.type "tuple", none, .seq [.str "self" 1310, .str "nesting" 1311, .str "name" 1312].toArray 0, #[]⟩) (.nil) (.nil)) (.nil))) (.node (gO (tree20 P) 238) (.node (gO (tree33 P) 366) (.node (⟨.none, none, .fields [].toArray, #[]⟩) (.nil) (.nil)) (.nil)) (.node (⟨.type "code", none, .fields [.str "number" 1053, .str "World.number" 1054, .str "/claim/cut.py" 1055, .int 299 0, .int 1 0, .int 0 0, .int 0 0, .int 3 0, .ref 489, .bool true, .int 181 0, .ref 490, .none, .ref 491, .ref 492, .ref 493, .int 1057 0, .int 299 0, .str "/claim/cut.py" 1058].toArray, #[]⟩) (.node (⟨.type "tuple", none, .seq [].toArray 0, #[]⟩) (.nil) (.nil)) (.nil))))) (.node (gO (tree20 P) 62) (.node (gO (tree20 P) 94) (.node (gO (tree20 P) 158) (.node (gO (tree33 P) 286) (.node (⟨.type "code", none, .fields [.str "class_of" 1114, .str "World.class_of" 1115, .str "/claim/cut.py" 1116, .int 353 0, .int 2 0, .int 0 0, .int 0 0, .int 3 0, .ref 537, .bool true, .int 181 0, .ref 538, .none, .ref 539, .ref 540, .ref 541, .int 1119 0, .int 353 0, .str "/claim/cut.py" 1120].toArray, #[]⟩) (.nil) (.nil)) (.nil)) (.node (gO (tree45 P) 414) (.node (⟨.type "tuple", none, .seq [].toArray 0, #[]⟩) (.nil) (.nil)) (.nil))) (.node (gO (tree20 P) 222) (.node (gO (tree33 P) 350) (.node (⟨.type "function", none, .func (fnG (clsS 45 19) "range_of" "World.range_of" 3 (.none) (.none) (.str "gemrows.world" 861) (.ref 605) 0), #[]⟩) (.nil) (.nil)) (.nil)) (.node (⟨.type "tuple", none, .seq [].toArray 0, #[]⟩) (.node (⟨.none, none, .fields [].toArray, #[]⟩) (.nil) (.nil)) (.nil)))) (.node (gO (tree20 P) 126) (.node (gO (tree20 P) 190) (.node (gO (tree33 P) 318) (.node (⟨.type "tuple", none, .seq [.str "self" 1157, .str "text" 1158].toArray 0, #[]⟩) (.nil) (.nil)) (.nil)) (.node (gO (tree45 P) 446) (.node (⟨.none, none, .func (fnG (clsS 45 33) "constant_in" "World.constant_in" 0 (.none) (.none) (.none) (.none) 0), #[]⟩) (.nil) (.nil)) (.nil))) (.node (gO (tree20 P) 254) (.node (gO (tree45 P) 382) (.node (⟨.type "tuple", none, .seq [].toArray 0, #[]⟩) (.nil) (.nil)) (.nil)) (.node (⟨.type "tuple", none, .seq [].toArray 0, #[]⟩) (.node (⟨.type "tuple", none, .seq [].toArray 0, #[]⟩) (.nil) (.nil)) (.nil)))))))))
def st55 (P : Params) (os : OsState) : SharedT := ⟨tree55 P, 771, {}, #[], {}, 1445, os⟩
def pos55 : Pos := ⟨565, 0, 587, 67⟩

theorem pre_run : ∀ w : World, (fun os => topGo treeTable pw w 11 (some (.ref 6)) 12 ⟨boot_heap w.params, #[], boot_drawn, boot_toks, os⟩ (topStub pw)) =
    fun os => some (⟨heapA w.params, #[], {}, 187, os⟩, ⟨denote treeTable codeE, codeE, pos0, [topFrame pos0]⟩) := by
  intro w
  rw [PySem.W.Fast.te15667345088766844465, PySem.W.Fast.te14364793385576792824, PySem.W.Fast.te11892475500146522536]
  kernel_rfl
theorem block_run : ∀ w : World, (fun os => segRun treeTable pw w 11 (some (.ref 6)) 1 1 ⟨heapA w.params, #[], {}, 187, os⟩ (blockOf bodyE env0 codeE pos0 [topFrame pos0])) =
    fun os => some (.next, (⟨treeB w.params, 15, {}, #[], {}, 187, os⟩ : SharedT).abs, codeE, pos0) := by
  intro w
  rw [PySem.W.Fast.te14374325043358763698, PySem.W.Fast.te14364793385576792824]
  kernel_rfl

section
variable {α : Type}
/-- what is asked of the state behind the top -/
def lookOf (Yf : Shared → α) (P : Params) (s : Shared) :=
  (staticsOk (importedModules pw.main.body) (boot_heap P) s.heap && namesBound pw s.heap && gensDone s && laidKept (boot_heap P) s.heap,
    openSeen q loose (importedModules pw.main.body) (fun s => xlAt q [] s && recOk (RowW.records R.row.toRowW) s) true s, Yf s)
end

theorem kas_eq : ∀ P, kas = (K P).map (·.1) := fun _ => rfl
def H : Hook := kHook K kas kas_eq
def Xt (s : Shared) : Bool := xlAt q [] s && recOk (RowW.records R.row.toRowW) s
abbrev seg0 : List Stmt := (bodyE.drop 0).take 20
abbrev seg1 : List Stmt := (bodyE.drop 20).take 13
abbrev seg2 : List Stmt := (bodyE.drop 33).take 12
abbrev seg3 : List Stmt := (bodyE.drop 45).take 10
theorem run0f : ∀ w : World, (fun os => segRunT treeTable pw (w.withFollow lawRow false) 11 (some (.ref 6)) 1 2900 ⟨treeB (w.withFollow lawRow false).params, 15, {}, #[], {}, 187, os⟩ (piecesOf seg0 env0 codeE pos0 [topFrame pos0])) =
    fun os => some (.next, st20 (w.withFollow lawRow false).params os, codeE, pos20) := by
  intro w
  rw [PySem.W.Fast.te10110043849684766642, PySem.W.Fast.te14364793385576792824]
  kernel_rfl
theorem run0t : ∀ w : World, (fun os => segRunT treeTable pw (w.withFollow lawRow true) 11 (some (.ref 6)) 1 2900 ⟨treeB (w.withFollow lawRow true).params, 15, {}, #[], {}, 187, os⟩ (piecesOf seg0 env0 codeE pos0 [topFrame pos0])) =
    fun os => some (.next, st20 (w.withFollow lawRow true).params os, codeE, pos20) := by
  intro w
  rw [PySem.W.Fast.te10110043849684766642, PySem.W.Fast.te14364793385576792824]
  kernel_rfl
theorem run0 : ∀ w : World, (fun os => segRunT treeTable pw w 11 (some (.ref 6)) 1 2900 ⟨treeB w.params, 15, {}, #[], {}, 187, os⟩ (piecesOf seg0 env0 codeE pos0 [topFrame pos0])) =
    fun os => some (.next, st20 w.params os, codeE, pos20) := byRow2 lawRow run0f run0t
theorem run1f : ∀ w : World, (fun os => segRunT treeTable pw (w.withFollow lawRow false) 11 (some (.ref 6)) 1 700 (st20 (w.withFollow lawRow false).params os) (piecesOf seg1 env0 codeE pos20 [topFrame pos0])) =
    fun os => some (.next, st33 (w.withFollow lawRow false).params os, codeE, pos33) := by
  intro w
  rw [PySem.W.Fast.te10110043849684766642, PySem.W.Fast.te14364793385576792824]
  kernel_rfl
theorem run1t : ∀ w : World, (fun os => segRunT treeTable pw (w.withFollow lawRow true) 11 (some (.ref 6)) 1 700 (st20 (w.withFollow lawRow true).params os) (piecesOf seg1 env0 codeE pos20 [topFrame pos0])) =
    fun os => some (.next, st33 (w.withFollow lawRow true).params os, codeE, pos33) := by
  intro w
  rw [PySem.W.Fast.te10110043849684766642, PySem.W.Fast.te14364793385576792824]
  kernel_rfl
theorem run1 : ∀ w : World, (fun os => segRunT treeTable pw w 11 (some (.ref 6)) 1 700 (st20 w.params os) (piecesOf seg1 env0 codeE pos20 [topFrame pos0])) =
    fun os => some (.next, st33 w.params os, codeE, pos33) := byRow2 lawRow run1f run1t
theorem run2f : ∀ w : World, (fun os => segRunT treeTable pw (w.withFollow lawRow false) 11 (some (.ref 6)) 1 1800 (st33 (w.withFollow lawRow false).params os) (piecesOf seg2 env0 codeE pos33 [topFrame pos0])) =
    fun os => some (.next, st45 (w.withFollow lawRow false).params os, codeE, pos45) := by
  intro w
  rw [PySem.W.Fast.te10110043849684766642, PySem.W.Fast.te14364793385576792824]
  kernel_rfl
theorem run2t : ∀ w : World, (fun os => segRunT treeTable pw (w.withFollow lawRow true) 11 (some (.ref 6)) 1 1800 (st33 (w.withFollow lawRow true).params os) (piecesOf seg2 env0 codeE pos33 [topFrame pos0])) =
    fun os => some (.next, st45 (w.withFollow lawRow true).params os, codeE, pos45) := by
  intro w
  rw [PySem.W.Fast.te10110043849684766642, PySem.W.Fast.te14364793385576792824]
  kernel_rfl
theorem run2 : ∀ w : World, (fun os => segRunT treeTable pw w 11 (some (.ref 6)) 1 1800 (st33 w.params os) (piecesOf seg2 env0 codeE pos33 [topFrame pos0])) =
    fun os => some (.next, st45 w.params os, codeE, pos45) := byRow2 lawRow run2f run2t
theorem run3f : ∀ w : World, (fun os => segRunT treeTable pw (w.withFollow lawRow false) 11 (some (.ref 6)) 1 1700 (st45 (w.withFollow lawRow false).params os) (piecesOf seg3 env0 codeE pos45 [topFrame pos0])) =
    fun os => some (.next, st55 (w.withFollow lawRow false).params os, codeE, pos55) := by
  intro w
  rw [PySem.W.Fast.te10110043849684766642, PySem.W.Fast.te14364793385576792824]
  kernel_rfl
theorem run3t : ∀ w : World, (fun os => segRunT treeTable pw (w.withFollow lawRow true) 11 (some (.ref 6)) 1 1700 (st45 (w.withFollow lawRow true).params os) (piecesOf seg3 env0 codeE pos45 [topFrame pos0])) =
    fun os => some (.next, st55 (w.withFollow lawRow true).params os, codeE, pos55) := by
  intro w
  rw [PySem.W.Fast.te10110043849684766642, PySem.W.Fast.te14364793385576792824]
  kernel_rfl
theorem run3 : ∀ w : World, (fun os => segRunT treeTable pw w 11 (some (.ref 6)) 1 1700 (st45 w.params os) (piecesOf seg3 env0 codeE pos45 [topFrame pos0])) =
    fun os => some (.next, st55 w.params os, codeE, pos55) := byRow2 lawRow run3f run3t
theorem look_f : ∀ w : World, (fun os => lookOf H.obs (w.withFollow lawRow false).params (st55 (w.withFollow lawRow false).params os).abs) = fun os => (true, openGood q loose, H.val (w.withFollow lawRow false)) := by
  intro w
  unfold lookOf
  rw [PySem.W.Fast.te4187177175401517315]
  kernel_rfl
theorem look_t : ∀ w : World, (fun os => lookOf H.obs (w.withFollow lawRow true).params (st55 (w.withFollow lawRow true).params os).abs) = fun os => (true, openGood q loose, H.val (w.withFollow lawRow true)) := by
  intro w
  unfold lookOf
  rw [PySem.W.Fast.te4187177175401517315]
  kernel_rfl
theorem looked : ∀ w : World, (fun os => lookOf H.obs w.params (st55 w.params os).abs) = fun os => (true, openGood q loose, H.val w) := byRow2 lawRow look_f look_t
theorem segs : seg0 ++ (seg1 ++ (seg2 ++ (seg3 ++ []))) = bodyE := by kernel_rfl
theorem ran (w : World) (os : OsState) : ∃ s₁, topRun treeTable pw w 11 (some (.ref 6)) (12 + (1 + (2900 + (700 + (1800 + (1700 + 2)))))) ⟨boot_heap w.params, #[], boot_drawn, boot_toks, os⟩ (topStub pw) = some s₁ ∧
    lookOf H.obs w.params s₁ = (true, openGood q loose, H.val w) := by
  refine ⟨(st55 w.params os).abs, ?_, congrFun (looked w) os⟩
  refine go_top (congrFun (pre_run w) os) (piece_block (congrFun (block_run w) os) ?_)
  have k3 := piece_app (env := env0) (q := pos0) (rest := []) (l := seg3) (N := 2) (segRun_of (congrFun (run3 w) os)) (piece_nil (r := (st55 w.params os).abs) rfl)
  have k2 := piece_app (env := env0) (q := pos0) (l := seg2) (segRun_of (congrFun (run2 w) os)) k3
  have k1 := piece_app (env := env0) (q := pos0) (l := seg1) (segRun_of (congrFun (run1 w) os)) k2
  have k0 := piece_app (env := env0) (q := pos0) (l := seg0) (segRun_of (congrFun (run0 w) os)) k1
  rw [segs] at k0
  exact k0
theorem opened : ∀ w : World, (fencedOpening treeTable pw w 8000).map (fun s => (s.heap, s.gens, s.drawn, s.toks)) = some (boot_heap w.params, Array.mk [], boot_drawn, boot_toks) :=
  boot_open (p := pw) (by kernel_rfl) (by kernel_rfl) (fun s => by kernel_rfl)
theorem sized : ∀ w : World, ((boot_heap w.params).isNs mainGlobals && (#[] : Array GenState).size == 0, (boot_heap w.params).objs.size, (boot_heap w.params).nsMap mainGlobals "__annotations__") = (true, 11, some (.ref 6)) := fun w => by kernel_rfl
theorem left : LeftO R.row.prog q loose Xt H.obs H.val 8000 := fun w => by
  obtain ⟨⟨h, gs, d, k, os⟩, e, e'⟩ := Option.map_eq_some_iff.mp (opened w)
  obtain ⟨rfl, rfl, rfl, rfl⟩ : h = boot_heap w.params ∧ gs = #[] ∧ d = boot_drawn ∧ k = boot_toks := by simpa using e'
  obtain ⟨z1, z2, z3⟩ : _ ∧ _ ∧ _ := by simpa only [Prod.mk.injEq] using sized w
  obtain ⟨s₁, r, l⟩ := ran w os
  unfold lookOf at l
  simp only [Prod.mk.injEq] at l
  obtain ⟨l1, l2, l3⟩ := l
  have r := topRun_mono (8000 - (12 + (1 + (2900 + (700 + (1800 + (1700 + 2))))))) _ _ _ _ r
  rw [show 12 + (1 + (2900 + (700 + (1800 + (1700 + 2))))) + (8000 - (12 + (1 + (2900 + (700 + (1800 + (1700 + 2))))))) = 8000 from rfl] at r
  have t : topFrom treeTable pw w 8000 ⟨boot_heap w.params, #[], boot_drawn, boot_toks, os⟩ = some s₁ := by
    unfold topFrom
    dsimp only
    rw [z1, z2, z3, r]
    show (match staticsOk (importedModules pw.main.body) (boot_heap w.params) s₁.heap && namesBound pw s₁.heap && gensDone s₁ && laidKept (boot_heap w.params) s₁.heap with | true => _ | false => _) = _
    rw [l1]
  show (openEnds treeTable pw w 8000).map _ = _
  unfold openEnds
  rw [e]
  show (topFrom treeTable pw w 8000 _).map _ = _
  rw [t]
  exact congrArg some (Prod.ext l2 l3)
theorem and_t {a b : Bool} (ha : a = true) (hb : b = true) : (a && b) = true := by rw [ha, hb]; rfl
theorem said : R.wellSaid = true := by
  rw [PySem.W.Fast.te9446332074065402090]
  unfold PySem.W.Fast.tw9446332074065402090
  repeat' (with_reducible refine and_t ?_ ?_)
  all_goals try unfold PySem.W.Fast.tw17960256430627541270
  all_goals repeat' (with_reducible refine and_t ?_ ?_)
  all_goals try unfold PySem.W.Fast.tw2436336058641802641
  all_goals repeat' (with_reducible refine and_t ?_ ?_)
  all_goals try unfold PySem.W.Fast.tw12908688711261696721
  all_goals repeat' (with_reducible refine and_t ?_ ?_)
  all_goals decide +kernel
theorem witness : R.row.toRowW.promised := by w_witness2
theorem hd (hc : WalkO q loose (XL q []) H.says R.row.toRowW ⟨"law", fargs (topS 54), fbody (topS 54), fscope (topS 54), ⟨565, 0, 587, 67⟩⟩ [] fun f vs => PySem.call f vs) : R.Holds :=
  holds_law said fun hs => holds_open (r := R.row) (q := q) (loose := loose) (Xt := Xt) (XP := XL q []) (Yf := H.obs) (Ya := H.val) (YP := H.says) (N := 8000) left H.of H.keeps
    (fun s e => xl_of s (Bool.and_eq_true_iff.mp e).1) XL.keeps (by rfl) (by rfl) (by rfl) (fun s e => recFacts_of (Bool.and_eq_true_iff.mp e).2) (by rfl) hs (by decide +kernel) ⟨rfl, rfl, rfl, rfl, rfl, by decide +kernel⟩ witness hc
theorem finish (walk : ∀ (w : World) (s₁ : Shared) (ax : Addr) (vs : List Value) (ns : List Int) (Q : Value → Shared → Prop) (E : Value → Shared → Prop), (K w.params).In s₁.heap → (∃ p l mg mb, TopRead p l mg mb s₁.heap) →
      s₁.heap.IsList ax vs.toArray → IntsAre vs ns → ns.length ≤ 63 → (PyData.list (ns.map PyData.int)).layable0 = true →
      (∀ h' tk, (∀ b o, s₁.heap.get? b = some o → h'.get? b = some o) → Q (.bool true) { s₁ with heap := h', toks := tk }) →
      wpAny (model pw w) callerA (call (.ref 770) [.ref ax]) Q E s₁) : R.Holds := hd (by
  intro w s₀ s₁ mg mb G Y fa o pm cd doc dV kV ho hd hcd hD hmg hg args vals as hpre hlay hrd hwl hlo
  have KX : (K w.params).In s₁.heap := kIn_of Y
  refine Ground.open G ?_
  intro T B D TE TW
  have TR := topRead_of T
  have hfa : mg "law" = some (.ref 770) := mg_of KX T.g (by kernel_rfl)
  obtain rfl : fa = 770 := by
    have e : mg "law" = some (.ref fa) := hmg
    rw [hfa] at e
    cases e; rfl
  clear ho hd hcd hD hmg B D TE TW
  wrow_args hpre hlay hrd hwl hlo
  rename_i ns hs h0 hL h1 h2 a1 a2 ax vs a3 hlist ra w1 r0 hI hr hlen ht
  refine walk w s₁ ax vs ns _ _ KX ⟨_, _, _, _, TR⟩ hlist hI (by omega) hL ?_
  intro h' tk hk
  exact ⟨.inl ⟨.bool true, .bool true, [], rfl, fun _ => rfl, .bool true, by kernel_rfl, fun _ => ⟨.nil, fun _ ha => nomatch ha⟩⟩, .of_keep hk, rfl, .of_eq hg⟩)
end
end Mine
open PySem.Calls PySem.Spec
namespace Mine
noncomputable section


abbrev Locs := List (Str × Value)
abbrev Led := List (Addr × Obj)
def ml (l : Locs) : Str → Option Value := fun x => l.lookup x

structure V where
  w : World
  A : Around
  A₀ : Around
  base : Heap
  outer : List Env
  h₀ : Heap
  L : Addr
  a : Addr
  cd : Value
  cl : List (Str × Addr)
abbrev V.env (v : V) (nm : Str) (sc : Scope) : Env := envX nm sc v.L v.a v.cd v.cl

structure Ok (v : V) (nm : Str) (sc : Scope) (d : Nat) : Prop where
  B : Below v.A₀ v.base v.outer v.h₀
  fr : v.A.frames = some (v.env nm sc :: v.outer)
  kd : sc.kind = .function
  X : (K v.w.params).In v.h₀
  T : ∃ p l mg mb, TopRead p l mg mb v.h₀
  hh : v.A.handled = none
  dp : v.A.depth + d < recursionLimit
  un : v.A.units + 4 * d + 8 < cLine
theorem Ok.less {v : V} {nm : Str} {sc : Scope} {d e : Nat} (h : Ok v nm sc d) (le : e ≤ d) : Ok v nm sc e := ⟨h.B, h.fr, h.kd, h.X, h.T, h.hh, by have := h.dp; omega, by have := h.un; omega⟩

/-- the tree t, from the locals l and the ledger G, gives what k takes, and never raises -/
def W {α : Type} (v : V) (t : Sem α) (l : Locs) (G : Led) (k : α → Locs → Led → Prop) : Prop :=
  ∀ (s : Shared) (Q : α → Shared → Prop) (E : Value → Shared → Prop), Fr v.h₀ v.L s.heap (ml l) → News v.h₀ v.L s.heap G →
    (∀ a l' G' h' tk', k a l' G' → Fr v.h₀ v.L h' (ml l') → News v.h₀ v.L h' G' → Q a { s with heap := h', toks := tk' }) → wpAny (model pw v.w) v.A t Q E s

section
variable {α β : Type} {v : V} {l : Locs} {G : Led}
theorem W_mono {t : Sem α} {k k' : α → Locs → Led → Prop} (h : W v t l G k) (hk : ∀ a l' G', k a l' G' → k' a l' G') : W v t l G k' :=
  fun s Q E F N c => h s Q E F N fun a l' G' h' tk' x => c a l' G' h' tk' (hk _ _ _ x)
theorem W_pure {a : α} {k : α → Locs → Led → Prop} (h : k a l G) : W v (pure a) l G k := fun s Q E F N c => wpAny_pure (c a l G s.heap s.toks h F N)
theorem W_bind {t : Sem α} {f : α → Sem β} {k : β → Locs → Led → Prop} (h : W v t l G fun a l' G' => W v (f a) l' G' k) : W v (t >>= f) l G k :=
  fun s Q E F N c => wpAny_bind (h s _ _ F N fun a l' G' h' tk' x F' N' => x { s with heap := h', toks := tk' } Q E F' N' fun b l2 G2 h2 tk2 y F2 N2 => c b l2 G2 h2 tk2 y F2 N2)
/-- a ledger may forget -/
theorem W_forget {t : Sem α} {G₂ : Led} {k : α → Locs → Led → Prop} (h : W v t l G₂ k) (hs : ∀ p ∈ G₂, p ∈ G) : W v t l G k :=
  fun s Q E F N c => h s Q E F (fun p hp => N p (hs p hp)) c
theorem W_holding {vs : List Value} {t : Sem α} {k : α → Locs → Led → Prop} (h : W v t l G k) : W v (holding vs t) l G k := fun s Q E F N c => wpAny_holding (h s Q E F N c)
theorem W_standAt {p : Pos} {k : Unit → Locs → Led → Prop} (h : k () l G) : W v (standAt p) l G k := fun s Q E F N c => wpAny_standAt (c () l G s.heap s.toks h F N)
end

section
variable {v : V} {l : Locs} {G : Led} {nm : Str} {sc : Scope} {d : Nat} {k : Value → Locs → Led → Prop} {pos : Pos}
theorem W_int {env : Env} {i : Int} {n : Nat} (h : ∀ t, k (.int i t) l G) : W v (eval (.Constant (.int i) n pos) env) l G k := fun s Q E F N c => wpAny_Constant_int (c _ l G s.heap _ (h _) F N)
theorem W_str {env : Env} {x : Str} {n : Nat} (h : ∀ t, k (.str x t) l G) : W v (eval (.Constant (.str x) n pos) env) l G k := fun s Q E F N c => Constant_str (c _ l G s.heap _ (h _) F N)
theorem W_none {env : Env} {n : Nat} (h : k .none l G) : W v (eval (.Constant .none n pos) env) l G k := fun s Q E F N c => fun _ _ _ => c _ l G s.heap s.toks h F N
theorem W_bool {env : Env} {b : Bool} {n : Nat} (h : k (.bool b) l G) : W v (eval (.Constant (.bool b) n pos) env) l G k := fun s Q E F N c => fun _ _ _ => c _ l G s.heap s.toks h F N
theorem look_hd {x : Str} {u : Value} {r : Locs} : List.lookup x ((x, u) :: r) = some u := by rw [List.lookup_cons]; simp
theorem look_tl {x y : Str} {u : Value} {r : Locs} {o : Option Value} (h : List.lookup x r = o) (ne : (x == y) = false) : List.lookup x ((y, u) :: r) = o := by rw [List.lookup_cons, ne]; exact h
/-- a name of that kind -/
def locQ (sc : Scope) (x : Str) (kd : NameKind) : Bool := sc.names.lookup x == some kd && !(x == ("__debug__" : Str))
theorem locQ_k {x : Str} {kd : NameKind} (h : locQ sc x kd = true) : sc.names.lookup x = some kd := by unfold locQ at h; rw [Bool.and_eq_true] at h; exact beq_iff_eq.mp h.1
theorem locQ_d {x : Str} {kd : NameKind} (h : locQ sc x kd = true) : (x == ("__debug__" : Str)) = false := by unfold locQ at h; rw [Bool.and_eq_true] at h; simpa using h.2
theorem W_local {x : Str} {u : Value} (hv : Ok v nm sc d) (hl : l.lookup x = some u) (hq : locQ sc x .local = true) (h : k u l G) : W v (eval (.Name x pos) (v.env nm sc)) l G k :=
  fun s Q E F N c => nameX_L F hl (c u l G s.heap s.toks h F N) hv.kd (locQ_k hq) (locQ_d hq)
theorem W_cell {x : Str} {u : Value} {c : Addr} {o : Obj} (hv : Ok v nm sc d) (hc : v.cl.lookup x = some c) (hm : (c, o) ∈ G) (ho : o.data = .cell (some u)) (hq : locQ sc x .cell = true) (h : k u l G) : W v (eval (.Name x pos) (v.env nm sc)) l G k :=
  fun s Q E F N c => nameX_C N hc hm ho (c u l G s.heap s.toks h F N) hv.kd (locQ_k hq) (locQ_d hq)
theorem W_glob {x : Str} {u : Value} (hv : Ok v nm sc d) (e : nsIn (K v.w.params) mainGlobals x = some (some u)) (hq : locQ sc x .globalImplicit = true) (h : k u l G) : W v (eval (.Name x pos) (v.env nm sc)) l G k :=
  fun s Q E F N c => by
    obtain ⟨_, _, _, _, T⟩ := hv.T
    exact nameX_K F hv.X T e (c u l G s.heap s.toks h F N) hv.kd (locQ_k hq) (locQ_d hq)
theorem W_builtin {x : Str} {u : Value} (hv : Ok v nm sc d) (e : nsIn (K v.w.params) mainGlobals x = some none) (hb : bootBuiltins x = some u) (hq : (locQ sc x .globalImplicit && x != "__name__") = true) (h : k u l G) : W v (eval (.Name x pos) (v.env nm sc)) l G k :=
  fun s Q E F N c => by
    obtain ⟨_, _, _, _, T⟩ := hv.T
    rw [Bool.and_eq_true] at hq
    exact nameX_B F hv.X T e hb (by simpa using hq.2) (c u l G s.heap s.toks h F N) hv.kd (locQ_k hq.1) (locQ_d hq.1)
end

abbrev Vk := Value → Locs → Led → Prop
abbrev BinK2 (v : V) (op : Operator) (a : Value) (k : Vk) : Vk := fun b l G => W v (binaryOp op a b) l G k
abbrev BinK1 (v : V) (op : Operator) (e2 : Expr) (env : Env) (k : Vk) : Vk := fun a l G => W v (eval e2 env) l G (BinK2 v op a k)
abbrev CmpK2 (v : V) (op : CmpOp) (a : Value) (k : Vk) : Vk := fun b l G => W v (compareOp op a b) l G k
abbrev CmpK1 (v : V) (op : CmpOp) (e2 : Expr) (env : Env) (k : Vk) : Vk := fun a l G => W v (eval e2 env) l G (CmpK2 v op a k)
abbrev TruK (v : V) (k : Bool → Locs → Led → Prop) : Vk := fun a l G => W v (truthy a) l G k
def plainTest : Expr → Bool
  | .UnaryOp .Not _ _ | .BoolOp .. | .Compare .. | .IfExp .. => false
  | _ => true
theorem plain_is {e : Expr} {env : Env} {whole : Sem Value} (h : plainTest e = true) : isTrue e env whole = (do let v ← whole; standAt e.pos; holding [v] (truthy v)) := by
  unfold PySem.isTrue
  split <;> first | rfl | (unfold plainTest at h; cases h)
section
variable {v : V} {l : Locs} {G : Led} {nm : Str} {sc : Scope} {d : Nat} {k : Value → Locs → Led → Prop} {pos : Pos} {env : Env}
theorem W_BinOp {e1 e2 : Expr} {op : Operator} (h : W v (eval e1 env) l G (BinK1 v op e2 env k)) : W v (eval (.BinOp e1 op e2 pos) env) l G k :=
  fun s Q E F N c => wpAny_BinOp (h s _ E F N fun a l1 G1 h1 t1 x F1 N1 => x _ _ E F1 N1 fun b l2 G2 h2 t2 y F2 N2 => y _ Q E F2 N2 c)
theorem W_IfExp {t b o : Expr} (h : W v (isTrue t env (eval t env)) l G fun c l1 G1 => if c then W v (eval b env) l1 G1 k else W v (eval o env) l1 G1 k) : W v (eval (.IfExp t b o pos) env) l G k :=
  fun s Q E F N c => wpAny_IfExp (h s _ E F N fun a l1 G1 h1 t1 x F1 N1 => by cases a <;> exact x _ Q E F1 N1 c)
theorem W_Compare1 {e1 e2 : Expr} {op : CmpOp} (h : W v (eval e1 env) l G (CmpK1 v op e2 env k))
    (hm : behindInMarks op e2 = false := by rfl) : W v (eval (.Compare e1 [op] [e2] pos) env) l G k :=
  fun s Q E F N c => wpAny_Compare1 (h s _ E F N fun a l1 G1 h1 t1 x F1 N1 => x _ _ E F1 N1 fun b l2 G2 h2 t2 y F2 N2 => y _ Q E F2 N2 c) hm
theorem W_isTrue_Compare1 {e1 e2 : Expr} {op : CmpOp} {whole : Sem Value} {k : Bool → Locs → Led → Prop} (h : W v (eval e1 env) l G (CmpK1 v op e2 env (TruK v k)))
    (hm : behindInMarks op e2 = false := by rfl) : W v (isTrue (.Compare e1 [op] [e2] pos) env whole) l G k :=
  fun s Q E F N c => wpAny_isTrue_Compare1 (h s _ E F N fun a l1 G1 h1 t1 x F1 N1 => x _ _ E F1 N1 fun b l2 G2 h2 t2 y F2 N2 => y _ _ E F2 N2 fun c' l3 G3 h3 t3 z F3 N3 => z _ Q E F3 N3 c) hm
theorem W_isTrue_plain {e : Expr} {whole : Sem Value} {k : Bool → Locs → Led → Prop} (h : W v whole l G (TruK v k)) (hq : plainTest e = true) : W v (isTrue e env whole) l G k :=
  fun s Q E F N c => isTrue_plain (h s _ E F N fun a l1 G1 h1 t1 x F1 N1 => x _ Q E F1 N1 c) (plain_is hq)
theorem W_isTrue_Not {e : Expr} {whole : Sem Value} {k : Bool → Locs → Led → Prop} (h : W v (isTrue e env (eval e env)) l G fun b l1 G1 => k (!b) l1 G1) : W v (isTrue (.UnaryOp .Not e pos) env whole) l G k :=
  fun s Q E F N c => wpAny_isTrue_Not (h s _ E F N fun a l1 G1 h1 t1 x F1 N1 => c _ _ _ _ _ x F1 N1)
theorem W_isTrue_And {es : List Expr} {whole : Sem Value} {k : Bool → Locs → Led → Prop} (h : W v (allTrue .And es env) l G k) : W v (isTrue (.BoolOp .And es pos) env whole) l G k := h
theorem W_isTrue_Or {es : List Expr} {whole : Sem Value} {k : Bool → Locs → Led → Prop} (h : W v (allTrue .Or es env) l G k) : W v (isTrue (.BoolOp .Or es pos) env whole) l G k := h
theorem W_allAnd_nil {k : Bool → Locs → Led → Prop} (h : k true l G) : W v (allTrue .And [] env) l G k := W_pure h
theorem W_allOr_nil {k : Bool → Locs → Led → Prop} (h : k false l G) : W v (allTrue .Or [] env) l G k := W_pure h
theorem W_allAnd {e : Expr} {es : List Expr} {k : Bool → Locs → Led → Prop} (h : W v (isTrue e env (eval e env)) l G fun b l1 G1 => if b then W v (allTrue .And es env) l1 G1 k else k false l1 G1) : W v (allTrue .And (e :: es) env) l G k :=
  W_bind (t := isTrue e env (eval e env)) (W_mono h fun b l1 G1 x => by cases b <;> first | exact x | exact W_pure x)
theorem W_allOr {e : Expr} {es : List Expr} {k : Bool → Locs → Led → Prop} (h : W v (isTrue e env (eval e env)) l G fun b l1 G1 => if b then k true l1 G1 else W v (allTrue .Or es env) l1 G1 k) : W v (allTrue .Or (e :: es) env) l G k :=
  W_bind (t := isTrue e env (eval e env)) (W_mono h fun b l1 G1 x => by cases b <;> first | exact x | exact W_pure x)
theorem W_truthy_bool {b : Bool} {k : Bool → Locs → Led → Prop} (h : k b l G) : W v (truthy (.bool b)) l G k := fun s Q E F N c => wpAny_truthy_bool (c _ _ _ s.heap s.toks h F N)
theorem W_truthy_none {k : Bool → Locs → Led → Prop} (h : k false l G) : W v (truthy .none) l G k := fun s Q E F N c => truthy_none (c _ _ _ s.heap s.toks h F N)

-- ints
variable {a b : Int} {t u : Tok}
theorem W_add (h : ∀ t, k (.int (a + b) t) l G) : W v (binaryOp .Add (.int a t) (.int b u)) l G k := fun s Q E F N c => wpAny_add_int (c _ l G s.heap _ (h _) F N)
theorem W_iadd (h : ∀ t, k (.int (a + b) t) l G) : W v (inplaceOp .Add (.int a t) (.int b u)) l G k := fun s Q E F N c => wpAny_iadd_int (c _ l G s.heap _ (h _) F N)
theorem W_sub (h : ∀ t, k (.int (a - b) t) l G) : W v (binaryOp .Sub (.int a t) (.int b u)) l G k := fun s Q E F N c => PySem.P.sub_int (c _ l G s.heap _ (h _) F N)
theorem W_mul (hm : IntMulOk a b) (h : ∀ t, k (.int (a * b) t) l G) : W v (binaryOp .Mult (.int a t) (.int b u)) l G k := fun s Q E F N c => PySem.P.mul_int (c _ l G s.heap _ (h _) F N) hm
theorem W_pow {n : Int} (hn : 0 ≤ n) (hsz : (Builtin.Int.intBits a : Int) * n ≤ 2 ^ 27) (h : ∀ t, k (.int (a ^ n.toNat) t) l G) : W v (binaryOp .Pow (.int a t) (.int n u)) l G k := fun s Q E F N c => PyProof.Rows.pow_int hn hsz (c _ l G s.heap _ (h _) F N)
theorem W_gt {k : Value → Locs → Led → Prop} (h : k (.bool (decide (a > b))) l G) : W v (compareOp .Gt (.int a t) (.int b u)) l G k := fun s Q E F N c => PySem.P.gt_int (c _ l G s.heap s.toks h F N)
theorem W_ge {k : Value → Locs → Led → Prop} (h : k (.bool (decide (a ≥ b))) l G) : W v (compareOp .GtE (.int a t) (.int b u)) l G k := fun s Q E F N c => PySem.P.ge_int (c _ l G s.heap s.toks h F N)
theorem W_lt {k : Value → Locs → Led → Prop} (h : k (.bool (decide (a < b))) l G) : W v (compareOp .Lt (.int a t) (.int b u)) l G k := fun s Q E F N c => PySem.P.lt_int (c _ l G s.heap s.toks h F N)
theorem W_le {k : Value → Locs → Led → Prop} (h : k (.bool (decide (a ≤ b))) l G) : W v (compareOp .LtE (.int a t) (.int b u)) l G k := fun s Q E F N c => PySem.P.le_int (c _ l G s.heap s.toks h F N)
theorem W_eq {k : Value → Locs → Led → Prop} (h : k (.bool (a == b)) l G) : W v (compareOp .Eq (.int a t) (.int b u)) l G k := fun s Q E F N c => PySem.P.eq_int (c _ l G s.heap s.toks h F N)
theorem W_ne {k : Value → Locs → Led → Prop} (h : k (.bool (a != b)) l G) : W v (compareOp .NotEq (.int a t) (.int b u)) l G k := fun s Q E F N c => PySem.P.ne_int (c _ l G s.heap s.toks h F N)
theorem Ok.room {v : V} {nm : Str} {sc : Scope} {d : Nat} (hv : Ok v nm sc d) (s : Shared) (F : Fr v.h₀ v.L s.heap (ml l)) : s.heap.NoLimit := by
  obtain ⟨_, _, _, _, T⟩ := hv.T
  exact T.nolimit.keeps F.keep
end


-- what a ledger says
def IL (G : Led) (a : Addr) (vs : List Value) : Prop := ∃ o, (a, o) ∈ G ∧ o.cls = .type "list" ∧ ∃ n, o.data = .seq vs.toArray n
def PL (G : Led) (a : Addr) (vs : List Value) : Prop := ∃ n, (a, listOf vs.toArray n) ∈ G
def TL (G : Led) (a : Addr) (vs : List Value) : Prop := ∃ o, (a, o) ∈ G ∧ o.cls = .type "tuple" ∧ ∃ n, o.data = .seq vs.toArray n
inductive Fl : List DictEntry → Locs → Prop
  | nil : Fl [] []
  | cons {h : Int} {x : Str} {t : Tok} {u : Value} {es : List DictEntry} {fs : Locs} : Fl es fs → Fl (⟨h, .str x t, u⟩ :: es) ((x, u) :: fs)
def IG (G : Led) (x C dx : Addr) (fs : Locs) : Prop := (x, instObj C dx) ∈ G ∧ ∃ es n, (dx, dictOf es n) ∈ G ∧ Fl es fs
def Sub (G G' : Led) : Prop := ∀ p ∈ G, p ∈ G'
def But (a : Addr) (G G' : Led) : Prop := ∀ p ∈ G, p.1 ≠ a → p ∈ G'
theorem PL.il {G : Led} {a : Addr} {vs : List Value} (h : PL G a vs) : IL G a vs := let ⟨n, m⟩ := h; ⟨_, m, rfl, n, rfl⟩
theorem IL.sub {G G' : Led} {a : Addr} {vs : List Value} (h : IL G a vs) (s : Sub G G') : IL G' a vs := let ⟨o, m, r⟩ := h; ⟨o, s _ m, r⟩
theorem PL.sub {G G' : Led} {a : Addr} {vs : List Value} (h : PL G a vs) (s : Sub G G') : PL G' a vs := let ⟨o, m⟩ := h; ⟨o, s _ m⟩
theorem TL.sub {G G' : Led} {a : Addr} {vs : List Value} (h : TL G a vs) (s : Sub G G') : TL G' a vs := let ⟨o, m, r⟩ := h; ⟨o, s _ m, r⟩
theorem IG.sub {G G' : Led} {x C dx : Addr} {fs : Locs} (h : IG G x C dx fs) (s : Sub G G') : IG G' x C dx fs := let ⟨m, es, n, m', r⟩ := h; ⟨s _ m, es, n, s _ m', r⟩
theorem IL.but {G G' : Led} {a b : Addr} {vs : List Value} (h : IL G a vs) (s : But b G G') (ne : a ≠ b) : IL G' a vs := let ⟨o, m, r⟩ := h; ⟨o, s _ m ne, r⟩
theorem PL.but {G G' : Led} {a b : Addr} {vs : List Value} (h : PL G a vs) (s : But b G G') (ne : a ≠ b) : PL G' a vs := let ⟨o, m⟩ := h; ⟨o, s _ m ne⟩
theorem TL.but {G G' : Led} {a b : Addr} {vs : List Value} (h : TL G a vs) (s : But b G G') (ne : a ≠ b) : TL G' a vs := let ⟨o, m, r⟩ := h; ⟨o, s _ m ne, r⟩
theorem IG.but {G G' : Led} {x C dx b : Addr} {fs : Locs} (h : IG G x C dx fs) (s : But b G G') (ne : x ≠ b) (ne' : dx ≠ b) : IG G' x C dx fs := let ⟨m, es, n, m', r⟩ := h; ⟨s _ m ne, es, n, s _ m' ne', r⟩
theorem Sub.rfl {G : Led} : Sub G G := fun _ h => h
theorem Sub.trans {G G' G'' : Led} (h : Sub G G') (k : Sub G' G'') : Sub G G'' := fun p m => k p (h p m)
theorem Sub.cons {G : Led} {p : Addr × Obj} : Sub G (p :: G) := fun _ h => .tail _ h
def upd (G : Led) (a : Addr) (o : Obj) : Led := (a, o) :: G.filter fun p => decide (p.1 ≠ a)
theorem upd_but {G : Led} {a : Addr} {o : Obj} : But a G (upd G a o) := fun p m ne => .tail _ (List.mem_filter.mpr ⟨m, by simpa using ne⟩)
theorem upd_at {G : Led} {a : Addr} {o : Obj} : (a, o) ∈ upd G a o := .head _
theorem news_put {h₀ h h' : Heap} {L a : Addr} {G : Led} {o o' : Obj} (N : News h₀ L h G) (hm : (a, o) ∈ G) (hs : Heap.SameBut a h h') (ho : h'.get? a = some o') : News h₀ L h' (upd G a o') := by
  intro p hp
  rcases List.mem_cons.mp hp with rfl | hp
  · exact ⟨ho, (N _ hm).2⟩
  · obtain ⟨hp, ne⟩ := List.mem_filter.mp hp
    exact ⟨(hs.2 _ (by simpa using ne)).trans (N p hp).1, (N p hp).2⟩
theorem news_fresh {h₀ h : Heap} {L : Addr} {G : Led} (N : News h₀ L h G) : ∀ p ∈ G, p.1 < h.objs.size := fun p hp => Heap.lt_size (N p hp).1
theorem fl_getL {name : Str} : ∀ {es : List DictEntry} {fs : Locs}, Fl es fs → getL name es = some (fs.lookup name)
  | _, _, .nil => rfl
  | _, _, .cons (x := x) (t := t) (u := u) (es := es) (fs := fs) (h := h) r => by
    have ih := fl_getL (name := name) r
    have e : (Value.str x t).isStr name = (name == x) := by
      show (x == name) = _
      exact Bool.beq_comm
    have e2 : DictEntry.refKey ⟨h, .str x t, u⟩ = false := rfl
    unfold getL at ih ⊢
    rw [List.find?_cons, List.lookup_cons, List.any_cons, e2, Bool.false_or]
    dsimp only
    rw [e]
    cases hb : (name == x) with
    | true => rfl
    | false => exact ih
/-- the fields with one put (at its place, or at the end) -/
inductive SetF (name : Str) (u : Value) : Locs → Locs → Prop
  | hd {u' r} : SetF name u ((name, u') :: r) ((name, u) :: r)
  | tl {y u' r r'} : (y == name) = false → SetF name u r r' → SetF name u ((y, u') :: r) ((y, u') :: r')
  | nil : SetF name u [] [(name, u)]
theorem fl_putL {name : Str} {h : Int} {t : Tok} {u : Value} : ∀ {es : List DictEntry} {fs fs' : Locs}, Fl es fs → SetF name u fs fs' → Fl (putL name h (.str name t) u es) fs'
  | _, _, _, .nil, .nil => .cons .nil
  | _, _, _, .cons (x := x) (t := t') r, S => by
    have e : (Value.str x t').isStr name = (x == name) := rfl
    unfold putL
    show Fl (if (Value.str x t').isStr name then _ else _) _
    rw [e]
    cases S with
    | hd => rw [if_pos (by simp)]; exact .cons r
    | tl ne S => rw [if_neg (by simp [ne])]; exact .cons (fl_putL r S)
theorem fl_len : ∀ {es : List DictEntry} {fs : Locs}, Fl es fs → es.length = fs.length
  | _, _, .nil => rfl
  | _, _, .cons r => by rw [List.length_cons, List.length_cons, fl_len r]

def fieldOk (K : Frag) (C : Addr) (name : Str) : Bool := plainGet K C name && hasDictIn K C && (match findIn K (.ref C) name with | some a => noGet K a | none => false)
def storeOk (K : Frag) (C : Addr) (name : Str) : Bool := findIn K (.ref C) "__setattr__" == some (some (.builtin "object.__setattr__")) && plainOver K C && takerIn K C name == some none && hasDictIn K C
def methOk (K : Frag) (C : Addr) (name : Str) (f : Addr) : Bool := plainGet K C name && findIn K (.ref C) name == some (some (.ref f)) && isFn K (.ref f)
/-- a base that is no call of super -/
def baseOk : Expr → Bool
  | .Call (.Name _ _) [] [] _ => false
  | _ => true
theorem base_whole {o : Expr} {attr : Str} {env : Env} {whole : Sem Value} (h : baseOk o = true) : attributeBase o attr env whole = whole := by
  unfold attributeBase
  split
  · cases h
  · rfl
abbrev AttrK (v : V) (name : Str) (k : Value → Locs → Led → Prop) : Value → Locs → Led → Prop := fun o l G => W v (getAttr o name true) l G k
section
variable {v : V} {l : Locs} {G : Led} {nm : Str} {sc : Scope} {d : Nat} {k : Value → Locs → Led → Prop} {pos : Pos} {env : Env}
theorem W_Attribute {e : Expr} {name : Str} (h : W v (eval e env) l G (AttrK v name k)) (hq : baseOk e = true) : W v (eval (.Attribute e name pos) env) l G k :=
  fun s Q E F N c => Attribute_any_ (h s _ E F N fun a l1 G1 h1 t1 x F1 N1 => x _ Q E F1 N1 c) (by
    rw [show eval (.Attribute e name pos) env = (do
      let o ← attributeBase e name env (eval e env)
      standAt pos.atName
      let r ← holding [o] (getAttr o name true)
      letTemporaryGo e o r
      pure r) from by with_unfolding_all rfl, base_whole hq])
theorem W_field {x C dx : Addr} {fs : Locs} {name : Str} {u : Value} {ex : Bool} (hv : Ok v nm sc d) (I : IG G x C dx fs) (ok : fieldOk (K v.w.params) C name = true) (hl : fs.lookup name = some u) (hh : handedIn u = true) (h : k u l G) :
    W v (getAttr (.ref x) name ex) l G k := fun s Q E F N c => by
  obtain ⟨m1, es, n, m2, fl⟩ := I
  unfold fieldOk at ok
  rw [Bool.and_eq_true, Bool.and_eq_true] at ok
  obtain ⟨⟨o1, o2⟩, o3⟩ := ok
  cases ha : findIn (K v.w.params) (.ref C) name with
  | none => rw [ha] at o3; cases o3
  | some attr =>
    rw [ha] at o3
    exact get_own F hv.X (InstAt.of_news N m1 m2) o1 o2 ha o3 (by rw [fl_getL fl, hl]) hh (c u l G s.heap _ h F N)
theorem W_setfield {x C dx : Addr} {fs fs' : Locs} {name : Str} {u : Value} {k : Unit → Locs → Led → Prop} (hv : Ok v nm sc d) (I : IG G x C dx fs) (ok : storeOk (K v.w.params) C name = true) (S : SetF name u fs fs') (hz : fs'.length ≤ 100)
    (h : ∀ G', But dx G G' → IG G' x C dx fs' → k () l G') : W v (setAttr (.ref x) name u) l G k := fun s Q E F N c => by
  obtain ⟨m1, es, n, m2, fl⟩ := I
  unfold storeOk at ok
  simp only [Bool.and_eq_true, beq_iff_eq] at ok
  obtain ⟨⟨⟨o1, o2⟩, o3⟩, o4⟩ := ok
  have ne : x ≠ dx := by
    rintro rfl
    have a := (N _ m1).1
    have b := (N _ m2).1
    dsimp only at a b
    rw [a] at b
    cases b
  have fl' := fl_putL (h := PyData.keyHash v.w.params name) (t := s.toks + 1) fl S
  have N2 : News v.h₀ v.L s.heap ((dx, dictOf es n) :: G.filter fun p => decide (p.1 ≠ dx)) := fun p hp => by
    rcases List.mem_cons.mp hp with rfl | hp
    · exact N _ m2
    · exact N _ (List.mem_filter.mp hp).1
  refine set_dict (es' := putL name (PyData.keyHash v.w.params name) (.str name (s.toks + 1)) u es) (n' := putN name es n) F hv.X N2 (InstAt.of_news N m1 m2) rfl o1 o2 o3 o4 (by rw [fl_getL fl]; rfl) rfl
    (.head ?_) (by rw [fl_len fl']; omega) fun h' F' N' => c () l _ h' _ (h (upd G dx (dictOf (putL name (PyData.keyHash v.w.params name) (.str name (s.toks + 1)) u es) (putN name es n))) upd_but ⟨upd_but _ m1 ne, _, _, upd_at, fl'⟩) F' N'
  intro p hp
  simpa using (List.mem_filter.mp hp).2
end

def retV : Flow → Value
  | .ret u => u
  | _ => .none
def isStar : Expr → Bool
  | .Starred .. => true
  | _ => false
theorem starEach_plain {env : Env} : ∀ {e : Expr} {r : List Expr}, isStar e = false → starEach (e :: r) env = (false, eval e env) :: starEach r env := by
  intro e r h
  cases e <;> first | rfl | cases h
def noStar (es : List Expr) : Bool := es.all fun e => !isStar e
theorem noStar_cons {e : Expr} {r : List Expr} (h : noStar (e :: r) = true) : isStar e = false ∧ noStar r = true := by
  unfold noStar at h ⊢
  rw [List.all_cons, Bool.and_eq_true] at h
  exact ⟨by simpa using h.1, h.2⟩
abbrev ConsK (k : List Value → Locs → Led → Prop) (a : Value) : List Value → Locs → Led → Prop := fun vs => k (a :: vs)
/-- the arguments, one by one -/
def Args (v : V) (env : Env) : List Expr → Locs → Led → (List Value → Locs → Led → Prop) → Prop
  | [], l, G, k => k [] l G
  | e :: r, l, G, k => W v (eval e env) l G fun a l1 G1 => Args v env r l1 G1 (ConsK k a)
abbrev ArgK (v : V) (env : Env) (r : List Expr) (k : List Value → Locs → Led → Prop) : Value → Locs → Led → Prop := fun a l G => Args v env r l G (ConsK k a)
abbrev CallK0 (v : V) (f : Value) (k : Value → Locs → Led → Prop) : List Value → Locs → Led → Prop := fun vs l G => W v (call f vs) l G k
abbrev CallK1 (v : V) (f : Value) (a : Value) (k : Value → Locs → Led → Prop) : List Value → Locs → Led → Prop := fun vs l G => W v (call f (a :: vs)) l G k
abbrev NameK (v : V) (pos : Pos) (es : List Expr) (env : Env) (k : Value → Locs → Led → Prop) : Value → Locs → Led → Prop := fun f l G => W v (callWith pos f [] (backTo pos (starEach es env)) []) l G k
section
variable {v : V} {l : Locs} {G : Led} {nm : Str} {sc : Scope} {d : Nat} {k : Value → Locs → Led → Prop} {pos : Pos} {env : Env}
theorem Args_nil {k : List Value → Locs → Led → Prop} (h : k [] l G) : Args v env [] l G k := h
theorem Args_w : ∀ {es : List Expr} {l : Locs} {G : Led} {k : List Value → Locs → Led → Prop}, noStar es = true → Args v env es l G k → W v (spliced (backTo pos (starEach es env))) l G k := by
  intro es
  induction es with
  | nil => exact fun _ h s Q E F N c => args_nil (c _ _ _ _ s.toks h F N)
  | cons e r ih => exact fun hs h s Q E F N c => args_cons (h s _ E F N fun a l1 G1 h1 t1 x F1 N1 => (ih (noStar_cons hs).2 x) _ _ E F1 N1 fun vs l2 G2 h2 t2 y F2 N2 => c _ _ _ _ _ y F2 N2) (starEach_plain (noStar_cons hs).1)
theorem back_plain : ∀ {es : List Expr}, noStar es = true → (backTo pos (starEach es env)).any (·.1) = false := by
  intro es
  induction es with
  | nil => exact fun _ => rfl
  | cons e r ih =>
    intro h
    rw [starEach_plain (noStar_cons h).1]
    show (false || (backTo pos (starEach r env)).any (·.1)) = false
    rw [ih (noStar_cons h).2]; rfl
theorem Args_ev {f : Value} {es : List Expr} {k : List Value → Locs → Led → Prop} (hp : noStar es = true) (h : Args v env es l G k) : ∀ (s : Shared) (Q : PySem.Args → Shared → Prop) (E : Value → Shared → Prop), Fr v.h₀ v.L s.heap (ml l) → News v.h₀ v.L s.heap G →
    (∀ vs l' G' h' tk', k vs l' G' → Fr v.h₀ v.L h' (ml l') → News v.h₀ v.L h' G' → Q ⟨vs, []⟩ { s with heap := h', toks := tk' }) → wpAny (model pw v.w) v.A (evalArgs f true (backTo pos (starEach es env)) []) Q E s := by
  intro s Q E F N c
  cases es with
  | nil => exact evalArgs_nil3 (c _ _ _ _ s.toks h F N)
  | cons e r =>
    have w := Args_w (pos := pos) hp h
    rw [starEach_plain (noStar_cons hp).1] at w ⊢
    exact evalArgs_plain (w s _ E F N c)
theorem W_callR0 {f : Addr} {es : List Expr} (hv : Ok v nm sc d) (h : Args v env es l G (CallK0 v (.ref f) k)) (hk : keepIn (K v.w.params) (.ref f) = true) (hp : noStar es = true) : W v (callWith pos (.ref f) [] (backTo pos (starEach es env)) []) l G k := fun s Q E F N c =>
  callWith_of (P := fun h => (K v.w.params).In h) (by show ((backTo pos (starEach es env)).any (·.1) || false) = false; rw [back_plain hp]; rfl) (keeps_K hk)
    (Args_ev hp h s _ E F N fun vs l1 G1 h1 t1 x F1 N1 => ⟨hv.X.keeps F1.keep, x _ Q E F1 N1 c⟩)
theorem W_callR1 {f : Addr} {a : Value} {es : List Expr} (hv : Ok v nm sc d) (h : Args v env es l G (CallK1 v (.ref f) a k)) (hk : keepIn (K v.w.params) (.ref f) = true) (hp : noStar es = true) : W v (callWith pos (.ref f) [a] (backTo pos (starEach es env)) []) l G k := fun s Q E F N c =>
  callWith_of (P := fun h => (K v.w.params).In h) (by show ((backTo pos (starEach es env)).any (·.1) || false) = false; rw [back_plain hp]; rfl) (keeps_K hk)
    (Args_ev hp h s _ E F N fun vs l1 G1 h1 t1 x F1 N1 => ⟨hv.X.keeps F1.keep, x _ Q E F1 N1 c⟩)
theorem W_callB0 {id : String} {es : List Expr} (h : Args v env es l G (CallK0 v (.builtin id) k)) (hp : noStar es = true) : W v (callWith pos (.builtin id) [] (backTo pos (starEach es env)) []) l G k := fun s Q E F N c =>
  callWith_builtin (back_plain hp) (Args_ev hp h s _ E F N fun vs l1 G1 h1 t1 x F1 N1 => x _ Q E F1 N1 c)
theorem W_callB1 {id : String} {a : Value} {es : List Expr} (h : Args v env es l G (CallK1 v (.builtin id) a k)) (hp : noStar es = true) : W v (callWith pos (.builtin id) [a] (backTo pos (starEach es env)) []) l G k := fun s Q E F N c =>
  callWith_builtin (back_plain hp) (Args_ev hp h s _ E F N fun vs l1 G1 h1 t1 x F1 N1 => x _ Q E F1 N1 c)
theorem W_callT0 {id : String} {es : List Expr} (h : Args v env es l G (CallK0 v (.type id) k)) (hp : noStar es = true) : W v (callWith pos (.type id) [] (backTo pos (starEach es env)) []) l G k := fun s Q E F N c =>
  PySem.callWith_type (back_plain hp) (Args_ev hp h s _ E F N fun vs l1 G1 h1 t1 x F1 N1 => x _ Q E F1 N1 c)
theorem W_CallName {x : Str} {p : Pos} {es : List Expr} (h : W v (eval (.Name x p) env) l G (NameK v pos es env k)) : W v (eval (.Call (.Name x p) es [] pos) env) l G k :=
  fun s Q E F N c => Call_ (h s _ E F N fun a l1 G1 h1 t1 x F1 N1 => x _ Q E F1 N1 c)
def plOf (o : Expr) (env : Env) : Sem Bool := do return (← importBound o env).getD true
def methQ (o : Expr) (es : List Expr) (apos pos : Pos) : Bool := baseOk o && noStar es && decide (es.length < 30) && apos.endLine == pos.line
theorem meth_head {o : Expr} {name : Str} {apos : Pos} {es : List Expr} (h : methQ o es apos pos = true) : eval (.Call (.Attribute o name apos) es [] pos) env = (do
      let ov ← eval o env
      standAt apos.atName
      let (f, first) ← holding [ov] (getMethod ov name (plOf o env))
      callWith pos f first (backTo pos (starEach es env)) (backToKw pos (keywordEach [] env))) := by
  unfold methQ at h
  simp only [Bool.and_eq_true, decide_eq_true_eq] at h
  obtain ⟨⟨⟨h1, h2⟩, h3⟩, h4⟩ := h
  have few : methodCallForm (es.length + ([] : List Keyword).length) (backTo pos (starEach es env)) (backToKw pos (keywordEach [] env)) = true := by
    unfold methodCallForm
    have e : (backTo pos (starEach es env)).all (!·.1) = true := by
      have := back_plain (pos := pos) (env := env) h2
      rw [List.any_eq_false] at this
      exact List.all_eq_true.mpr fun x hx => by simpa using this x hx
    rw [e]
    show (true && true && decide (es.length + 0 + 0 < 30)) = true
    simpa using h3
  rw [show eval (.Call (.Attribute o name apos) es [] pos) env = (do
    let ov ← attributeBase o name env (eval o env)
    standAt apos.atName
    methodCall o name apos pos env ov (es.length + ([] : List Keyword).length) (backTo pos (starEach es env)) (backToKw pos (keywordEach [] env))) from by with_unfolding_all rfl, base_whole h1]
  unfold methodCall methodCallPos calleeOf
  rw [few, h4]
  rfl
abbrev MethK2 (v : V) (pos : Pos) (es : List Expr) (env : Env) (k : Value → Locs → Led → Prop) : Value × List Value → Locs → Led → Prop := fun fx l G => W v (callWith pos fx.1 fx.2 (backTo pos (starEach es env)) []) l G k
abbrev MethK1 (v : V) (o : Expr) (name : Str) (pos : Pos) (es : List Expr) (env : Env) (k : Value → Locs → Led → Prop) : Value → Locs → Led → Prop := fun ov l G => W v (getMethod ov name (plOf o env)) l G (MethK2 v pos es env k)
theorem W_CallMeth {o : Expr} {name : Str} {apos : Pos} {es : List Expr} (h : W v (eval o env) l G (MethK1 v o name pos es env k)) (hq : methQ o es apos pos = true) : W v (eval (.Call (.Attribute o name apos) es [] pos) env) l G k :=
  fun s Q E F N c => methodCall_KW (h s _ E F N fun a l1 G1 h1 t1 x F1 N1 => x _ _ E F1 N1 fun fx l2 G2 h2 t2 y F2 N2 => y _ Q E F2 N2 c) (meth_head hq)
theorem W_method {x C dx f : Addr} {fs : Locs} {name : Str} {pl : Sem Bool} {k : Value × List Value → Locs → Led → Prop} (hv : Ok v nm sc d) (I : IG G x C dx fs) (ok : methOk (K v.w.params) C name f = true) (hl : fs.lookup name = none) (h : k (.ref f, [.ref x]) l G) :
    W v (getMethod (.ref x) name pl) l G k := fun s Q E F N c => by
  obtain ⟨m1, es, n, m2, fl⟩ := I
  unfold methOk at ok
  simp only [Bool.and_eq_true, beq_iff_eq] at ok
  obtain ⟨⟨o1, o2⟩, o3⟩ := ok
  exact method_inst F hv.X (InstAt.of_news N m1 m2) o1 o2 o3 (by rw [fl_getL fl, hl]) (c _ l G s.heap s.toks h F N)
def clsMethOk (K : Frag) (C : Addr) (name : Str) (f : Addr) : Bool := specialIn K (.ref C) "__getattribute__" == some (some (.builtin "type.__getattribute__")) && (match typeIn K (.ref C) with | some mc => readsIn K C mc && (match findCls K (.ref C) mc name with | some (.val (.ref g)) => g == f | _ => false) | none => false)
theorem W_clsMethod {C f : Addr} {name : Str} {pl : Sem Bool} {k : Value × List Value → Locs → Led → Prop} (hv : Ok v nm sc d) (ok : clsMethOk (K v.w.params) C name f = true) (h : k (.ref f, []) l G) : W v (getMethod (.ref C) name pl) l G k := fun s Q E F N c => by
  unfold clsMethOk at ok
  rw [Bool.and_eq_true] at ok
  obtain ⟨o1, o2⟩ := ok
  cases hm : typeIn (K v.w.params) (.ref C) with
  | none => rw [hm] at o2; cases o2
  | some mc =>
    rw [hm, Bool.and_eq_true] at o2
    obtain ⟨o2, o3⟩ := o2
    split at o3
    · next g e =>
      have := beq_iff_eq.mp o3
      subst this
      exact method_of_cls F hv.X (beq_iff_eq.mp o1) (cls_val F hv.X hm o2 e rfl (c _ l G s.heap _ h F N))
    · cases o3
end

/-- a code that gives what k takes -/
def C (v : V) (t : Code) (l : Locs) (G : Led) (k : Value → Locs → Led → Prop) : Prop :=
  ∀ (s : Shared) (R : Result → Shared → Prop), Fr v.h₀ v.L s.heap (ml l) → News v.h₀ v.L s.heap G →
    (∀ a l' G' h' tk', k a l' G' → Fr v.h₀ v.L h' (ml l') → News v.h₀ v.L h' G' → R (.ok (.ret a)) { s with heap := h', toks := tk' }) → codeAny (model pw v.w) v.A t R s
def scopeOk (sc : Scope) (ns : List Str) : Bool := (sc.names.all fun x => x.2 != .cell) && (ns.all fun n => sc.names.lookup n == some .local) && !sc.isCoroutine && !sc.isGenerator && sc.kind == .function
def scopeOkC (sc : Scope) (c : Str) (ns : List Str) : Bool := (ns.all fun n => (n == c && sc.names.lookup n == some .cell) || (n != c && sc.names.lookup n == some .local)) && (cellsFrom 0 sc.names []).map (·.1) == [c] && !sc.isCoroutine && !sc.isGenerator && sc.kind == .function
section
variable {v : V} {l : Locs} {G : Led} {nm : Str} {sc : Scope} {d : Nat} {k : Value → Locs → Led → Prop} {pos : Pos} {env : Env}
theorem W_call {f : Value} {vs : List Value} (h : C v (.call f ⟨vs, []⟩) l G k) : W v (call f vs) l G k :=
  fun s Q E F N c => wpAny_call (h s _ F N c)
def V.into (v : V) (nm : Str) (sc : Scope) (g : Heap) (L' f : Addr) (cdv : Value) (cl : List (Str × Addr)) (qual : Str) (scope : Scope) : V :=
  { w := v.w, A := v.A.deeper (envX qual scope L' f cdv cl), A₀ := v.A, base := v.base, outer := v.env nm sc :: v.outer, h₀ := g, L := L', a := f, cd := cdv, cl := cl }
theorem Ok.into {g : Heap} {L' f : Addr} {cdv : Value} {cl : List (Str × Addr)} {qual : Str} {scope : Scope} (hv : Ok v nm sc (d + 1)) (hk : scope.kind = .function) (B : Below v.A v.base (v.env nm sc :: v.outer) g) (st : v.h₀.StaysIn g) :
    Ok (v.into nm sc g L' f cdv cl qual scope) qual scope d := by
  refine ⟨B, Around.frames_deeper hv.fr, hk, hv.X.keeps st, ?_, ?_, ?_, ?_⟩
  · obtain ⟨p, ls, mg, mb, T⟩ := hv.T
    exact ⟨p, ls, mg, mb, T.keeps st⟩
  · exact hv.hh
  · show v.A.depth + 1 + d < recursionLimit
    have := hv.dp; omega
  · show v.A.units + 3 + 4 * d + 8 < cLine
    have := hv.un; omega
theorem C_fn {f : Addr} {name qual : Str} {params : Arguments} {body : List Stmt} {scope : Scope} {dV kV doc pm cdv ct oc : Value} {an od : Option Addr} {osl : Array (Option Value)} {args : PySem.Args} {binds : List (Str × Value)}
    (hv : Ok v nm sc (d + 1)) (ho : (K v.w.params).lookup f = some ⟨oc, od, .func (fnOf name qual params body scope dV kV doc pm an cdv ct), osl⟩) (hcd : codeIn (K v.w.params) cdv qual = true)
    (hb : ∀ S, peek (K v.w.params) S (bindArgs (fnOf name qual params body scope dV kV doc pm an cdv ct) args) = some binds) (hs : scopeOk scope (binds.map (·.1)) = true)
    (h : ∀ v', Ok v' qual scope d → v'.w = v.w → W v' (execs body (v'.env qual scope)) binds.reverse G fun fl _ G' => k (retV fl) l G') : C v (.call (.ref f) args) l G k := fun s R F N c => by
  have X := hv.X.keeps F.keep
  unfold scopeOk at hs
  simp only [Bool.and_eq_true, Bool.not_eq_true', List.all_eq_true, beq_iff_eq, bne_iff_ne] at hs
  obtain ⟨⟨⟨⟨s1, s2⟩, s3⟩, s4⟩, s5⟩ := hs
  have hlim : v.h₀.NoLimit := by obtain ⟨_, _, _, _, T⟩ := hv.T; exact T.nolimit
  refine callX_plain (cl := []) hv.B F N hlim hv.fr rfl hv.kd (X _ _ ho) rfl (codeRec_of X hcd) (by have := hv.dp; omega) (kp_binds X hb) (fun y hy => s2 _ (List.mem_map_of_mem hy)) (fun g L' h₁ FG F' N' B' st _ => ?_) s1 s3 s4 s5
  refine h (v.into nm sc g L' f cdv [] qual scope) (hv.into s5 B' st) rfl _ _ _ F' N' fun fl l' G' h' tk' x F2 N2 => ?_
  cases fl <;> exact leaveK_ F2 N2 fun F3 N3 => c _ l G' _ _ x F3 N3
def bindLs (c : Str) : List (Str × Value) → Locs → Locs
  | [], l => l
  | (n, u) :: r, l => bindLs c r (if n = c then l else (n, u) :: l)
theorem bindLs_eq {c : Str} {sc : Scope} {kindOf : Str → Option NameKind} : ∀ {binds : List (Str × Value)} {l : Locs}, (∀ n ∈ binds.map (·.1), (n = c ∧ kindOf n = some .cell) ∨ (n ≠ c ∧ kindOf n = some .local)) → bindL kindOf binds (ml l) = ml (bindLs c binds l)
  | [], _, _ => rfl
  | (n, u) :: r, l, h => by
    have ih := fun l => bindLs_eq (c := c) (sc := sc) (kindOf := kindOf) (binds := r) (l := l) fun m hm => h m (.tail _ hm)
    unfold bindL bindLs
    rcases h n (.head _) with ⟨e, e2⟩ | ⟨e, e2⟩
    · rw [if_pos e, if_neg (by rw [e2]; decide)]; exact ih l
    · rw [if_neg e, if_pos e2, ← ih]
      congr 1
      funext y
      show _ = List.lookup y ((n, u) :: l)
      rw [List.lookup_cons]
      by_cases q : y = n
      · subst q; simp
      · rw [if_neg q, show (y == n) = false by simpa using q]; rfl
def bindCs (c : Str) : List (Str × Value) → Option Value → Option Value
  | [], o => o
  | (n, u) :: r, o => bindCs c r (if n = c then some u else o)
theorem bindCs_eq {c : Str} {kindOf : Str → Option NameKind} : ∀ {binds : List (Str × Value)} {m : Str → Option Value}, (∀ n ∈ binds.map (·.1), (n = c ∧ kindOf n = some .cell) ∨ (n ≠ c ∧ kindOf n = some .local)) → bindC kindOf binds m c = bindCs c binds (m c)
  | [], _, _ => rfl
  | (n, u) :: r, m, h => by
    have ih := fun m => bindCs_eq (c := c) (kindOf := kindOf) (binds := r) (m := m) fun m hm => h m (.tail _ hm)
    unfold bindC bindCs
    rcases h n (.head _) with ⟨e, e2⟩ | ⟨e, e2⟩
    · rw [if_pos e, if_neg (by rw [e2]; decide), ih, if_pos e.symm]
    · rw [if_neg e, if_pos e2, ih]
theorem C_fnC {c : Str} {f : Addr} {name qual : Str} {params : Arguments} {body : List Stmt} {scope : Scope} {dV kV doc pm cdv ct oc : Value} {an od : Option Addr} {osl : Array (Option Value)} {args : PySem.Args} {binds : List (Str × Value)}
    (hv : Ok v nm sc (d + 1)) (ho : (K v.w.params).lookup f = some ⟨oc, od, .func (fnOf name qual params body scope dV kV doc pm an cdv ct), osl⟩) (hcd : codeIn (K v.w.params) cdv qual = true)
    (hb : ∀ S, peek (K v.w.params) S (bindArgs (fnOf name qual params body scope dV kV doc pm an cdv ct) args) = some binds) (hs : scopeOkC scope c (binds.map (·.1)) = true)
    (h : ∀ v' cA o, Ok v' qual scope d → v'.w = v.w → v'.cl = [(c, cA)] → o.data = .cell (bindCs c binds none) → (∀ p ∈ G, p.1 < cA) → W v' (execs body (v'.env qual scope)) (bindLs c binds []) ((cA, o) :: G) fun fl _ G' => k (retV fl) l G') : C v (.call (.ref f) args) l G k := fun s R F N cc => by
  have X := hv.X.keeps F.keep
  unfold scopeOkC at hs
  simp only [Bool.and_eq_true, Bool.or_eq_true, Bool.not_eq_true', List.all_eq_true, beq_iff_eq, bne_iff_ne] at hs
  obtain ⟨⟨⟨⟨s1, s2⟩, s3⟩, s4⟩, s5⟩ := hs
  have hlim : v.h₀.NoLimit := by obtain ⟨_, _, _, _, T⟩ := hv.T; exact T.nolimit
  have hone : ∀ n, ∃ cA, n ≤ cA ∧ cellsFrom n scope.names [] = [(c, cA)] := by
    have gen : ∀ (ns : List (Str × NameKind)) (n n' : Nat) (acc acc' : List (Str × Addr)), acc.map (·.1) = acc'.map (·.1) → (cellsFrom n ns acc).map (·.1) = (cellsFrom n' ns acc').map (·.1) := by
      intro ns
      induction ns with
      | nil => exact fun _ _ _ _ e => e
      | cons x r ih =>
        intro n n' acc acc' e
        obtain ⟨y, kd⟩ := x
        unfold cellsFrom
        split
        · exact ih _ _ _ _ (by simp [e])
        · exact ih _ _ _ _ e
    have low : ∀ (ns : List (Str × NameKind)) (n : Nat) (acc : List (Str × Addr)) (m : Nat), m ≤ n → (∀ p ∈ acc, m ≤ p.2) → ∀ p ∈ cellsFrom n ns acc, m ≤ p.2 := by
      intro ns
      induction ns with
      | nil => exact fun _ _ _ _ e => e
      | cons x r ih =>
        intro n acc m hm e
        obtain ⟨y, kd⟩ := x
        unfold cellsFrom
        split
        · exact ih _ _ _ (by omega) fun p hp => by
            rcases List.mem_cons.mp hp with rfl | hp
            · exact hm
            · exact e p hp
        · exact ih _ _ _ hm e
    intro n
    have e := gen scope.names n 0 [] [] rfl
    rw [s2] at e
    cases hc : cellsFrom n scope.names [] with
    | nil => rw [hc] at e; cases e
    | cons p r =>
      rw [hc] at e
      cases r with
      | nil =>
        obtain ⟨y, cA⟩ := p
        have : y = c := by simpa using e
        subst this
        exact ⟨cA, low _ n [] n (Nat.le_refl _) (fun _ h => by cases h) _ (by rw [hc]; exact .head _), rfl⟩
      | cons _ _ => cases e
  refine callX_cells hv.B F N hlim hv.fr rfl hv.kd (X _ _ ho) rfl (codeRec_of X hcd) (by have := hv.dp; omega) (kp_binds X hb) (fun n y hy => ?_) (by rw [s2]; simp) (fun g L' h₁ tk cells FG F' N' CA B' st hlt => ?_) s3 s4 s5
  · rcases s1 _ (List.mem_map_of_mem hy) with ⟨h1, h2⟩ | ⟨h1, h2⟩
    · obtain ⟨cA, _, e⟩ := hone n
      exact .inr ⟨h2, by rw [e, h1]; simp⟩
    · exact .inl h2
  · obtain ⟨cA, hle, e⟩ := hone (L' + 1)
    rw [e] at CA
    obtain ⟨o, rfl, ho⟩ := CA.one
    have hh : ∀ n ∈ binds.map (·.1), (n = c ∧ (envOfC qual scope L' f cdv).kindOf n = some .cell) ∨ (n ≠ c ∧ (envOfC qual scope L' f cdv).kindOf n = some .local) := s1
    rw [bindCs_eq hh] at ho
    have F2 : Fr g L' h₁ (ml (bindLs c binds [])) := by
      rw [← bindLs_eq (sc := scope) hh]
      exact F'
    have := h (v.into nm sc g L' f cdv (cellsFrom (L' + 1) scope.names []) qual scope) cA o (hv.into s5 B' st) rfl e ho (fun p hp => Nat.lt_trans (hlt p hp) hle)
    refine this _ _ _ F2 N' fun fl l' G' h' tk' x F2 N2 => ?_
    cases fl <;> exact leaveK_ F2 N2 fun F3 N3 => cc _ l G' _ _ x F3 N3
/-- a new object of a class of the program -/
theorem W_new {Cl fI : Addr} {vs : List Value} (hv : Ok v nm sc (d + 1)) (hm : makesIn (K v.w.params) Cl = true) (hi : findIn (K v.w.params) (.ref Cl) "__init__" = some (some (.ref fI))) (hf : isFn (K v.w.params) (.ref fI) = true)
    (h : ∀ v' x dx, Ok v' nm sc d → v'.w = v.w → (∀ p ∈ G, p.1 < dx) → dx < x → C v' (.call (.ref fI) ⟨.ref x :: vs, []⟩) l ((x, instObj Cl dx) :: (dx, dictOf [] 0) :: G) fun a l' G' => a = .none ∧ k (.ref x) l' G') : W v (call (.ref Cl) vs) l G k := fun s Q E F N c => by
  refine call_cls F hv.X N hm hi hf fun x dx h' F' N' lt lt2 => ?_
  have ok : Ok { v with A := v.A.under (.builtin "type.__call__" ⟨.ref Cl :: vs, []⟩) } nm sc d := by
    refine ⟨hv.B, hv.fr, hv.kd, hv.X, hv.T, hv.hh, ?_, ?_⟩
    · show v.A.depth + 1 + d < recursionLimit
      have := hv.dp; omega
    · show v.A.units + 1 + 4 * d + 8 < cLine
      have := hv.un; omega
  refine h { v with A := v.A.under (.builtin "type.__call__" ⟨.ref Cl :: vs, []⟩) } x dx ok rfl lt lt2 _ _ F' N' fun a l' G' h2 tk' y F2 N2 => ?_
  obtain ⟨rfl, y⟩ := y
  exact ⟨rfl, c _ l' G' _ _ y F2 N2⟩
end

/-- what is behind a statement -/
def Nx (v : V) (rest : List Stmt) (env : Env) (k : Flow → Locs → Led → Prop) : Flow → Locs → Led → Prop := fun f l G => match f with
  | .next => W v (execs rest env) l G k
  | f => k f l G
theorem TL.tup {G : Led} {a : Addr} {vs : List Value} {h₀ h : Heap} {L : Addr} (t : TL G a vs) (N : News h₀ L h G) : IsTup h a vs.toArray := let ⟨o, m, c, n, r⟩ := t; ⟨o, (N _ m).1, c, n, r⟩
theorem IL.list {G : Led} {a : Addr} {vs : List Value} {h₀ h : Heap} {L : Addr} (t : IL G a vs) (N : News h₀ L h G) : h.IsList a vs.toArray := let ⟨o, m, c, n, r⟩ := t; ⟨o, (N _ m).1, c, n, r⟩
abbrev RestK (v : V) (rest : List Stmt) (env : Env) (kf : Flow → Locs → Led → Prop) {α : Type} : α → Locs → Led → Prop := fun _ l G => W v (execs rest env) l G kf
abbrev RetK (kf : Flow → Locs → Led → Prop) : Vk := fun a l G => kf (.ret a) l G
abbrev StoK (v : V) (x : Str) (rest : List Stmt) (env : Env) (kf : Flow → Locs → Led → Prop) : Vk := fun a l G => W v (storeName env x a) l G (RestK v rest env kf)
abbrev AsgA2 (v : V) (at' : Str) (a : Value) (rest : List Stmt) (env : Env) (kf : Flow → Locs → Led → Prop) : Vk := fun ov l G => W v (setAttr ov at' a) l G (RestK v rest env kf)
abbrev AsgA1 (v : V) (o : Expr) (at' : Str) (rest : List Stmt) (env : Env) (kf : Flow → Locs → Led → Prop) : Vk := fun a l G => W v (eval o env) l G (AsgA2 v at' a rest env kf)
abbrev AsgS3 (v : V) (a ov : Value) (rest : List Stmt) (env : Env) (kf : Flow → Locs → Led → Prop) : Vk := fun iv l G => W v (setItem ov iv a) l G (RestK v rest env kf)
abbrev AsgS2 (v : V) (i : Expr) (a : Value) (rest : List Stmt) (env : Env) (kf : Flow → Locs → Led → Prop) : Vk := fun ov l G => W v (eval i env) l G (AsgS3 v a ov rest env kf)
abbrev AsgS1 (v : V) (o i : Expr) (rest : List Stmt) (env : Env) (kf : Flow → Locs → Led → Prop) : Vk := fun a l G => W v (eval o env) l G (AsgS2 v i a rest env kf)
abbrev AsgT (v : V) (t : Expr) (rest : List Stmt) (env : Env) (kf : Flow → Locs → Led → Prop) : Vk := fun a l G => W v (assign t env a) l G (RestK v rest env kf)
abbrev OrdK (v : V) (ts : List (Value → Sem Unit)) (xs : List Value) (k : Unit → Locs → Led → Prop) : Unit → Locs → Led → Prop := fun _ l G => W v (assignInOrder ts xs) l G k
section
variable {v : V} {l : Locs} {G : Led} {nm : Str} {sc : Scope} {d : Nat} {pos : Pos} {env : Env} {rest : List Stmt} {kf : Flow → Locs → Led → Prop}
theorem W_nil (h : kf .next l G) : W v (execs [] env) l G kf := W_pure h
theorem W_stmt {st : Stmt} (h : W v (exec st env) l G (Nx v rest env kf)) : W v (execs (st :: rest) env) l G kf := fun s Q E F N c =>
  wpAny_execs_cons (h s _ E F N fun f l1 G1 h1 t1 x F1 N1 => by
    cases f with
    | next => exact x _ Q E F1 N1 c
    | _ => exact c _ _ _ _ _ x F1 N1)
theorem W_ret {e : Expr} (h : W v (eval e env) l G (RetK kf)) : W v (execs (.Return (some e) pos :: rest) env) l G kf :=
  W_stmt fun s Q E F N c => wpAny_Return_some (h s _ E F N fun a l1 G1 h1 t1 x F1 N1 => c _ _ _ _ _ x F1 N1)
theorem W_If {t : Expr} {b o : List Stmt} (h : W v (isTrue t env (eval t env)) l G fun c l1 G1 => if c then W v (execs b env) l1 G1 (Nx v rest env kf) else W v (execs o env) l1 G1 (Nx v rest env kf)) : W v (execs (.If t b o pos :: rest) env) l G kf :=
  W_stmt fun s Q E F N c => wpAny_If (h s _ E F N fun a l1 G1 h1 t1 x F1 N1 => by cases a <;> exact x _ Q E F1 N1 c)
theorem W_Expr {e : Expr} (h : W v (eval e env) l G (RestK v rest env kf)) (hi : interactive env = false := by rfl) (hs : swapsWith e none pos.line env = pure false := by rfl) : W v (execs (.Expr e pos :: rest) env) l G kf :=
  W_stmt fun s Q E F N c => wpAny_Expr_any (h s _ E F N fun a l1 G1 h1 t1 x F1 N1 => c _ _ _ _ _ x F1 N1) hi hs
theorem W_store {x : Str} {u : Value} {k : Unit → Locs → Led → Prop} (hv : Ok v nm sc d) (h : k () ((x, u) :: l) G) (hx : sc.names.lookup x = some .local) : W v (storeName (v.env nm sc) x u) l G k := fun s Q E F N c =>
  storeX_L F N (fun h' F' N' => c () ((x, u) :: l) G h' _ h (by
    have e : ml ((x, u) :: l) = fun y => if y = x then some u else ml l y := by
      funext y
      show List.lookup y ((x, u) :: l) = _
      rw [List.lookup_cons]
      by_cases q : y = x
      · subst q; simp
      · rw [if_neg q, show (y == x) = false by simpa using q]; rfl
    rw [e]; exact F') N') hv.kd hx
theorem W_storeC {x : Str} {u : Value} {c : Addr} {o : Obj} {u₀ : Option Value} {k : Unit → Locs → Led → Prop} (hv : Ok v nm sc d) (hc : v.cl.lookup x = some c) (hm : (c, o) ∈ G) (ho : o.data = .cell u₀)
    (h : ∀ G' o', But c G G' → (c, o') ∈ G' → o'.data = .cell (some u) → k () l G') (hx : sc.names.lookup x = some .cell) : W v (storeName (v.env nm sc) x u) l G k := fun s Q E F N cc => by
  refine wpAny_storeName_cell hv.kd hx hc ⟨o, (N _ hm).1, ho⟩ fun h' hi hs => ?_
  obtain ⟨o', e, ho'⟩ := hi
  refine cc () l _ h' _ (h (upd G c o') o' upd_but upd_at ho') ⟨F.ns.sameBut hs (Ne.symm (N _ hm).2.1), fun b ob e => (hs.2 b fun q => ?_).trans (F.keep b ob e), F.above⟩ (news_put N hm hs e)
  rw [q, (N _ hm).2.2] at e; cases e
theorem W_asgName {x : Str} {p : Pos} {u : Value} {k : Unit → Locs → Led → Prop} (h : W v (storeName env x u) l G k) : W v (assign (.Name x p) env u) l G k := fun s Q E F N c => assign_Name (h s Q E F N c)
theorem W_order_nil {k : Unit → Locs → Led → Prop} {xs : List Value} (h : k () l G) : W v (assignInOrder [] xs) l G k := fun s Q E F N c => assignInOrder_nil (c _ _ _ s.heap s.toks h F N)
theorem W_order_cons {t : Value → Sem Unit} {ts : List (Value → Sem Unit)} {x : Value} {xs : List Value} {k : Unit → Locs → Led → Prop} (h : W v (t x) l G (OrdK v ts xs k)) : W v (assignInOrder (t :: ts) (x :: xs)) l G k :=
  fun s Q E F N c => assignInOrder_cons (h s _ E F N fun a l1 G1 h1 t1 y F1 N1 => y _ Q E F1 N1 c)
theorem W_asgTup {elts : List Expr} {kk} {p : Pos} {t : Addr} {vs : List Value} {k : Unit → Locs → Led → Prop} (hv : Ok v nm sc d) (T : TL G t vs)
    (h : W v (assignInOrder ((assignEach elts (v.env nm sc)).map (·.2)) vs) l G k) (hn : (assignEach elts (v.env nm sc)).length = vs.length := by rfl) (hs : (assignEach elts (v.env nm sc)).findIdx? (·.1) = none := by rfl) : W v (assign (.Tuple elts kk p) (v.env nm sc) (.ref t)) l G k := fun s Q E F N c =>
  unpackN_ F N (T.tup N) hv.hh (by rw [hn]; rfl) hs fun h' F' N' => h _ Q E F' N' c
theorem W_unpackItems {t : Addr} {vs : List Value} {n : Nat} {k : List Value → Locs → Led → Prop} (hv : Ok v nm sc d) (T : TL G t vs) (hn : n = vs.length) (h : k vs l G) : W v (unpackItems (.ref t) n none) l G k := fun s Q E F N c =>
  unpackItemsN_ F N (T.tup N) hv.hh (by rw [hn]; rfl) fun h' F' N' => c vs l G h' s.toks h F' N'
theorem W_Assign {x : Str} {p : Pos} {e : Expr} (h : W v (eval e env) l G (StoK v x rest env kf)) (hs : swapsWith e (some (.Name x p)) pos.line env = pure false := by rfl) :
    W v (execs (.Assign [.Name x p] e pos :: rest) env) l G kf :=
  W_stmt fun s Q E F N c => wpAny_Assign_Name (h s _ E F N fun a l1 G1 h1 t1 x F1 N1 => x _ _ E F1 N1 fun b l2 G2 h2 t2 y F2 N2 => c _ _ _ _ _ y F2 N2) hs
theorem W_AssignAttr {o : Expr} {at' : Str} {p : Pos} {e : Expr} (h : W v (eval e env) l G (AsgA1 v o at' rest env kf)) (hs : swapsWith e (some (.Attribute o at' p)) pos.line env = pure false := by rfl) :
    W v (execs (.Assign [.Attribute o at' p] e pos :: rest) env) l G kf :=
  W_stmt fun s Q E F N c => plainObj_wpAny_Assign_Attribute (h s _ E F N fun a l1 G1 h1 t1 x F1 N1 => x _ _ E F1 N1 fun b l2 G2 h2 t2 y F2 N2 => y _ _ E F2 N2 fun b l2 G2 h2 t2 y F2 N2 => c _ _ _ _ _ y F2 N2) hs
theorem W_AssignSub {o i : Expr} {p : Pos} {e : Expr} (h : W v (eval e env) l G (AsgS1 v o i rest env kf))
    (hs : swapsWith e (some (.Subscript o i p)) pos.line env = pure false := by rfl) : W v (execs (.Assign [.Subscript o i p] e pos :: rest) env) l G kf :=
  W_stmt fun s Q E F N c => wpAny_Assign_Subscript (h s _ E F N fun a l1 G1 h1 t1 x F1 N1 => x _ _ E F1 N1 fun b l2 G2 h2 t2 y F2 N2 => y _ _ E F2 N2 fun b l2 G2 h2 t2 y F2 N2 => y _ _ E F2 N2 fun b l2 G2 h2 t2 y F2 N2 => c _ _ _ _ _ y F2 N2) hs
theorem W_AssignTup {elts : List Expr} {kk} {p : Pos} {e : Expr} (h : W v (eval e env) l G (AsgT v (.Tuple elts kk p) rest env kf))
    (hs : swapsWithSole [.Tuple elts kk p] e pos.line env = pure false := by rfl) (hw : swappedStores [.Tuple elts kk p] e env = pure none := by rfl) : W v (execs (.Assign [.Tuple elts kk p] e pos :: rest) env) l G kf :=
  W_stmt fun s Q E F N c => Assign_Tuple (h s _ E F N fun a l1 G1 h1 t1 x F1 N1 => x _ _ E F1 N1 fun b l2 G2 h2 t2 y F2 N2 => c _ _ _ _ _ y F2 N2) hs hw
theorem W_AssignSwap {elts : List Expr} {kk} {p : Pos} {e : Expr} {names : List Str} (h : W v (eval e env) l G fun a l1 G1 => W v (unpackItems a names.length none) l1 G1 fun vs l2 G2 => W v (assignInOrder (names.reverse.map fun n => bindName env n) vs.reverse) l2 G2 fun _ l3 G3 => W v (execs rest env) l3 G3 kf)
    (hs : swapsWithSole [.Tuple elts kk p] e pos.line env = pure false := by rfl) (hw : swappedStores [.Tuple elts kk p] e env = pure (some names) := by rfl) : W v (execs (.Assign [.Tuple elts kk p] e pos :: rest) env) l G kf :=
  W_stmt fun s Q E F N c => Assign_Tuple_swapped (h s _ E F N fun a l1 G1 h1 t1 x F1 N1 => x _ _ E F1 N1 fun b l2 G2 h2 t2 y F2 N2 => y _ _ E F2 N2 fun b l2 G2 h2 t2 y F2 N2 => c _ _ _ _ _ y F2 N2) hs hw
theorem W_bindName {x : Str} {u : Value} {k : Unit → Locs → Led → Prop} (h : W v (storeName env x u) l G k) : W v (bindName env x u) l G k := fun s Q E F N c => bindName_ (h s Q E F N c)
theorem W_AugAttr {o e : Expr} {at' : Str} {tp : Pos} {op : Operator} (h : W v (eval o env) l G fun ov l1 G1 => W v (getAttr ov at' true) l1 G1 fun old l2 G2 => W v (eval e env) l2 G2 fun u l3 G3 => W v (inplaceOp op old u) l3 G3 fun new l4 G4 => W v (setAttr ov at' new) l4 G4 fun _ l5 G5 => W v (execs rest env) l5 G5 kf) :
    W v (execs (.AugAssign (.Attribute o at' tp) op e pos :: rest) env) l G kf :=
  W_stmt fun s Q E F N c => wpAny_AugAssign_AttributeAny (h s _ E F N fun a l1 G1 h1 t1 x F1 N1 => x _ _ E F1 N1 fun b l2 G2 h2 t2 y F2 N2 => y _ _ E F2 N2 fun b l2 G2 h2 t2 y F2 N2 => y _ _ E F2 N2 fun b l2 G2 h2 t2 y F2 N2 => y _ _ E F2 N2 fun b l2 G2 h2 t2 y F2 N2 => c _ _ _ _ _ y F2 N2)
end

/-- the type of a value -/
inductive Ty (G : Led) : Value → Value → Prop
  | none : Ty G .none (.type "NoneType")
  | bool {b} : Ty G (.bool b) (.type "bool")
  | int {i t} : Ty G (.int i t) (.type "int")
  | str {x t} : Ty G (.str x t) (.type "str")
  | inst {x C dx fs} : IG G x C dx fs → Ty G (.ref x) (.ref C)
  | list {x vs} : IL G x vs → Ty G (.ref x) (.type "list")
def clsOk (K : Frag) (D : Addr) : Bool := plainGet K D "__class__" && hasDictIn K D && findIn K (.ref D) "__class__" == some (some (.builtin "object.__class__")) &&
  specialIn K (.builtin "object.__class__") "__get__" == some (some (.builtin "getset_descriptor.__get__")) && takesIn K (.builtin "object.__class__") == some true && mroIn K D (.type "object") == some true
def tyOk (K : Frag) (t : Value) : Bool := match t with
  | .ref C => clsOk K C
  | _ => true
section
variable {v : V} {l : Locs} {G : Led} {nm : Str} {sc : Scope} {d : Nat} {k : Value → Locs → Led → Prop} {pos : Pos} {env : Env}
theorem W_isi {u t c : Value} {b : Bool} (hv : Ok v nm sc d) (T : Ty G u t) (e : kitOne (K v.w.params) t c = some b) (ok : tyOk (K v.w.params) t = true) (h : k (.bool b) l G) : W v (call (.builtin "isinstance") [u, c]) l G k := fun s Q E F N cc => by
  have X := hv.X.keeps F.keep
  have fin : ∀ tk, Q (.bool b) { s with toks := tk } := fun tk => cc _ _ _ s.heap tk h F N
  cases T with
  | none => exact kia_one kitx_none X trivial e (by intro q; cases q) fin
  | bool => exact kia_one kitx_bool X trivial e (by intro q; cases q) fin
  | int => exact kia_one kitx_int X trivial e (by intro q; cases q) fin
  | str => exact kia_one kitx_str X trivial e (by intro q; cases q) fin
  | list I =>
    obtain ⟨o, m, c, _⟩ := I
    exact kia_one kitx_list X (kitAt_N N m c) e (by intro q; cases q) fin
  | inst I =>
    obtain ⟨m1, es, n, m2, fl⟩ := I
    unfold tyOk clsOk at ok
    simp only [Bool.and_eq_true, beq_iff_eq] at ok
    obtain ⟨⟨⟨⟨⟨o1, o2⟩, o3⟩, o4⟩, o5⟩, o6⟩ := ok
    exact kia_one (kitx_own o1 o2 o3 o4 o5 o6) X (InstAt.of_news N m1 m2) e (by intro q; cases q) fin
/-- the statements of a body, the first laid open -/
theorem execs_eq {b b' : List Stmt} {env : Env} {kf : Flow → Locs → Led → Prop} (h : W v (execs b' env) l G kf) (e : b = b') : W v (execs b env) l G kf := e ▸ h
end

section
variable {v : V} {l : Locs} {G : Led} {nm : Str} {sc : Scope} {d : Nat} {k : Value → Locs → Led → Prop} {kb : Bool → Locs → Led → Prop} {kf : Flow → Locs → Led → Prop} {pos : Pos} {env : Env}
def isNone : Value → Bool
  | .none => true
  | _ => false
theorem isNone_eq (u : Value) : (u == .none) = isNone u := by cases u <;> rfl
theorem W_isNone {u : Value} (h : k (.bool (isNone u)) l G) : W v (compareOp .Is u .none) l G k := fun s Q E F N c => is_none_gen (by rw [isNone_eq]; exact c _ l G s.heap s.toks h F N)
theorem W_isNotNone {u : Value} (h : k (.bool (!isNone u)) l G) : W v (compareOp .IsNot u .none) l G k := fun s Q E F N c => isnot_none_gen (by rw [isNone_eq]; exact c _ l G s.heap s.toks h F N)
variable {x y : Str} {t u : Tok}
theorem W_eqs (h : k (.bool (x == y)) l G) : W v (compareOp .Eq (.str x t) (.str y u)) l G k := fun s Q E F N c => PyProof.Rows.eq_str (c _ l G s.heap s.toks h F N)
theorem W_nes (h : k (.bool (x != y)) l G) : W v (compareOp .NotEq (.str x t) (.str y u)) l G k := fun s Q E F N c => PyProof.Rows.ne_str (c _ l G s.heap s.toks h F N)
theorem W_adds (hsz : x.length + y.length ≤ sizeLine) (h : ∀ t, k (.str (x ++ y) t) l G) : W v (binaryOp .Add (.str x t) (.str y u)) l G k := fun s Q E F N c => PyProof.Rows.add_str (fun t' tk => c _ l G s.heap tk (h _) F N) hsz
theorem itT {b : Bool} {P Q : Prop} (hb : b = true) (h : P) : if b = true then P else Q := by rw [if_pos hb]; exact h
theorem itF {b : Bool} {P Q : Prop} (hb : b = false) (h : Q) : if b = true then P else Q := by rw [if_neg (by rw [hb]; decide)]; exact h
theorem Nx_next {rest : List Stmt} (h : W v (execs rest env) l G kf) : Nx v rest env kf .next l G := h
theorem Nx_ret {rest : List Stmt} {a : Value} (h : kf (.ret a) l G) : Nx v rest env kf (.ret a) l G := h
end
def clsC : List Addr := [40, 62, 82, 120, 140, 181, 228]
def tysC : List Value := clsC.map .ref ++ [.type "NoneType", .type "bool", .type "int", .type "str"]
def isC : List Value := [.type "bool", .type "int", .type "str", .ref 62, .ref 82, .ref 120, .ref 140, .ref 161, .ref 181, .ref 228]
def isiB (t c : Value) : Bool := t == c || (t == .type "bool" && c == .type "int")
theorem isi_tab (P) : (tysC.all fun t => isC.all fun c => kitOne (K P) t c == some (isiB t c)) = true := by kernel_rfl
theorem ty_tab (P) : (tysC.all fun t => tyOk (K P) t) = true := by kernel_rfl
section
variable {v : V} {l : Locs} {G : Led} {nm : Str} {sc : Scope} {d : Nat} {k : Value → Locs → Led → Prop}
theorem W_is {u t c : Value} (hv : Ok v nm sc d) (T : Ty G u t) (ht : t ∈ tysC) (hc : c ∈ isC) (h : k (.bool (isiB t c)) l G) : W v (call (.builtin "isinstance") [u, c]) l G k :=
  W_isi hv T (by have := List.all_eq_true.mp (List.all_eq_true.mp (isi_tab v.w.params) t ht) c hc; exact beq_iff_eq.mp this) (List.all_eq_true.mp (ty_tab v.w.params) t ht) h
end
/-- what sort_of answers -/
def sortV : Value → Str
  | .none => "nil"
  | .bool _ => "bool"
  | .int _ _ => "int"
  | .str _ _ => "sym"
  | _ => "thing"
theorem glSIMPLE_ESCAPES (P) : nsIn (K P) mainGlobals "SIMPLE_ESCAPES" = some (some (.ref 22)) := by kernel_rfl
theorem glOPERATORS (P) : nsIn (K P) mainGlobals "OPERATORS" = some (some (.ref 23)) := by kernel_rfl
theorem glMODULES (P) : nsIn (K P) mainGlobals "MODULES" = some (some (.ref 447)) := by kernel_rfl
theorem glBUILTINS (P) : nsIn (K P) mainGlobals "BUILTINS" = some (some (.ref 448)) := by kernel_rfl
theorem glMIXED (P) : nsIn (K P) mainGlobals "MIXED" = some (some (.ref 451)) := by kernel_rfl
theorem glUNMADE (P) : nsIn (K P) mainGlobals "UNMADE" = some (some (.ref 459)) := by kernel_rfl
theorem glsort_of (P) : nsIn (K P) mainGlobals "sort_of" = some (some (.ref 237)) := by kernel_rfl
theorem glsame (P) : nsIn (K P) mainGlobals "same" = some (some (.ref 244)) := by kernel_rfl
theorem glcode_of (P) : nsIn (K P) mainGlobals "code_of" = some (some (.ref 250)) := by kernel_rfl
theorem glis_word (P) : nsIn (K P) mainGlobals "is_word" = some (some (.ref 257)) := by kernel_rfl
theorem glis_label (P) : nsIn (K P) mainGlobals "is_label" = some (some (.ref 264)) := by kernel_rfl
theorem glis_plain_symbol (P) : nsIn (K P) mainGlobals "is_plain_symbol" = some (some (.ref 271)) := by kernel_rfl
theorem glfull_name (P) : nsIn (K P) mainGlobals "full_name" = some (some (.ref 278)) := by kernel_rfl
theorem glshow_letter (P) : nsIn (K P) mainGlobals "show_letter" = some (some (.ref 285)) := by kernel_rfl
theorem glshow_text (P) : nsIn (K P) mainGlobals "show_text" = some (some (.ref 290)) := by kernel_rfl
theorem glshow_symbol (P) : nsIn (K P) mainGlobals "show_symbol" = some (some (.ref 297)) := by kernel_rfl
theorem glshow_pair (P) : nsIn (K P) mainGlobals "show_pair" = some (some (.ref 304)) := by kernel_rfl
theorem glshow_range (P) : nsIn (K P) mainGlobals "show_range" = some (some (.ref 311)) := by kernel_rfl
theorem glshow_thing (P) : nsIn (K P) mainGlobals "show_thing" = some (some (.ref 316)) := by kernel_rfl
theorem glshow_error (P) : nsIn (K P) mainGlobals "show_error" = some (some (.ref 323)) := by kernel_rfl
theorem glshow (P) : nsIn (K P) mainGlobals "show" = some (some (.ref 331)) := by kernel_rfl
theorem glshow_raised (P) : nsIn (K P) mainGlobals "show_raised" = some (some (.ref 366)) := by kernel_rfl
theorem glresult_of (P) : nsIn (K P) mainGlobals "result_of" = some (some (.ref 373)) := by kernel_rfl
theorem gl_law_box (P) : nsIn (K P) mainGlobals "_law_box" = some (some (.ref 725)) := by kernel_rfl
theorem gl_law_take (P) : nsIn (K P) mainGlobals "_law_take" = some (some (.ref 732)) := by kernel_rfl
theorem gl_law_quoted (P) : nsIn (K P) mainGlobals "_law_quoted" = some (some (.ref 739)) := by kernel_rfl
theorem gl_law_word (P) : nsIn (K P) mainGlobals "_law_word" = some (some (.ref 746)) := by kernel_rfl
theorem gl_law_key (P) : nsIn (K P) mainGlobals "_law_key" = some (some (.ref 753)) := by kernel_rfl
theorem gl_law_value (P) : nsIn (K P) mainGlobals "_law_value" = some (some (.ref 758)) := by kernel_rfl
theorem gl_law_error (P) : nsIn (K P) mainGlobals "_law_error" = some (some (.ref 765)) := by kernel_rfl
theorem gllaw (P) : nsIn (K P) mainGlobals "law" = some (some (.ref 770)) := by kernel_rfl
theorem glThing (P) : nsIn (K P) mainGlobals "Thing" = some (some (.ref 40)) := by kernel_rfl
theorem glText (P) : nsIn (K P) mainGlobals "Text" = some (some (.ref 62)) := by kernel_rfl
theorem glListThing (P) : nsIn (K P) mainGlobals "ListThing" = some (some (.ref 82)) := by kernel_rfl
theorem glTableThing (P) : nsIn (K P) mainGlobals "TableThing" = some (some (.ref 120)) := by kernel_rfl
theorem glRangeThing (P) : nsIn (K P) mainGlobals "RangeThing" = some (some (.ref 140)) := by kernel_rfl
theorem glProcThing (P) : nsIn (K P) mainGlobals "ProcThing" = some (some (.ref 161)) := by kernel_rfl
theorem glErrorThing (P) : nsIn (K P) mainGlobals "ErrorThing" = some (some (.ref 181)) := by kernel_rfl
theorem glModuleThing (P) : nsIn (K P) mainGlobals "ModuleThing" = some (some (.ref 228)) := by kernel_rfl
theorem glResult (P) : nsIn (K P) mainGlobals "Result" = some (some (.ref 355)) := by kernel_rfl
theorem glWorld (P) : nsIn (K P) mainGlobals "World" = some (some (.ref 714)) := by kernel_rfl
theorem gb_isinstance : bootBuiltins "isinstance" = some (.builtin "isinstance") := by kernel_rfl
theorem gb_len : bootBuiltins "len" = some (.builtin "len") := by kernel_rfl
theorem gb_ord : bootBuiltins "ord" = some (.builtin "ord") := by kernel_rfl
theorem gb_abs : bootBuiltins "abs" = some (.builtin "abs") := by kernel_rfl
theorem gb_bool : bootBuiltins "bool" = some (.type "bool") := by kernel_rfl
theorem gb_int : bootBuiltins "int" = some (.type "int") := by kernel_rfl
theorem gb_str : bootBuiltins "str" = some (.type "str") := by kernel_rfl
theorem gb_range : bootBuiltins "range" = some (.type "range") := by kernel_rfl
theorem gb_enumerate : bootBuiltins "enumerate" = some (.type "enumerate") := by kernel_rfl
theorem gb_list : bootBuiltins "list" = some (.type "list") := by kernel_rfl
theorem gb_tuple : bootBuiltins "tuple" = some (.type "tuple") := by kernel_rfl

/-- an object that a for line's let-go passes by -/
def quietO (o : Obj) : Bool := match o.cls, o.data with
  | .type n, .fields _ => !["enumerate", "zip", "dict_itemiterator", "dict_reverseitemiterator", "odict_iterator", "itertools.zip_longest", "itertools.pairwise"].contains n
  | _, _ => true
/-- an iterator at its i-th of n items -/
def ItW (v : V) (G : Led) (I : Addr) (fp : List Addr) (n i : Nat) (P : Nat → Value → Prop) : Prop :=
  ∃ (St : Nat → Heap → Prop), (∀ A' : Around, A'.handled = none → Walks pw v.w A' I fp [I] n P St) ∧ (∀ j h, St j h → ∃ o, h.get? I = some o ∧ quietO o = true) ∧ (∃ o, (I, o) ∈ G) ∧
    (∀ b ∈ fp, ∃ o, (b, o) ∈ G ∨ v.h₀.get? b = some o) ∧ ∀ h : Heap, (∀ b o, (b = I ∨ b ∈ fp) → (b, o) ∈ G → h.get? b = some o) → (∀ b o, v.h₀.get? b = some o → h.get? b = some o) → St i h
theorem ItW.to {v : V} {G G' : Led} {I : Addr} {fp : List Addr} {n i : Nat} {P : Nat → Value → Prop} (T : ItW v G I fp n i P) (s : ∀ b o, (b = I ∨ b ∈ fp) → (b, o) ∈ G → (b, o) ∈ G') : ItW v G' I fp n i P := by
  obtain ⟨St, W, ex, ⟨o, hI⟩, hfp, st⟩ := T
  refine ⟨St, W, ex, ⟨o, s I o (.inl rfl) hI⟩, fun b hb => ?_, fun h hG hh => st h (fun b o hb e => hG b o hb (s b o hb e)) hh⟩
  obtain ⟨o, h | h⟩ := hfp b hb
  · exact ⟨o, .inl (s b o (.inr hb) h)⟩
  · exact ⟨o, .inr h⟩
theorem ItW.sub {v : V} {G G' : Led} {I : Addr} {fp : List Addr} {n i : Nat} {P : Nat → Value → Prop} (T : ItW v G I fp n i P) (s : Sub G G') : ItW v G' I fp n i P := T.to fun b o _ m => s _ m
theorem ItW.but {v : V} {G G' : Led} {I a : Addr} {fp : List Addr} {n i : Nat} {P : Nat → Value → Prop} (T : ItW v G I fp n i P) (s : But a G G') (h1 : I ≠ a) (h2 : a ∉ fp) : ItW v G' I fp n i P := T.to fun b o hb m => s _ m (by
  rcases hb with rfl | hb
  · exact h1
  · rintro rfl; exact h2 hb)
theorem fr_but {h₀ h h' : Heap} {L a : Addr} {m : Str → Option Value} {G : Led} (F : Fr h₀ L h m) (N : News h₀ L h G) (ha : ∃ o, (a, o) ∈ G) (k : ∀ b o, b ≠ a → h.get? b = some o → h'.get? b = some o) : Fr h₀ L h' m ∧ News h₀ L h' (G.filter fun p => decide (p.1 ≠ a)) := by
  obtain ⟨o, ha⟩ := ha
  have n := N _ ha
  obtain ⟨oL, es, ep, hL, r⟩ := F.ns
  refine ⟨⟨⟨oL, es, ep, k _ _ (Ne.symm n.2.1) hL, r⟩, fun b o e => k b o (fun q => ?_) (F.keep b o e), F.above⟩, fun p hp => ?_⟩
  · rw [q, n.2.2] at e; cases e
  · obtain ⟨hp, ne⟩ := List.mem_filter.mp hp
    exact ⟨k _ _ (by simpa using ne) (N _ hp).1, (N _ hp).2⟩
theorem filter_but {G : Led} {a : Addr} : But a G (G.filter fun p => decide (p.1 ≠ a)) := fun p m ne => List.mem_filter.mpr ⟨m, by simpa using ne⟩
/-- the end of a turn -/
abbrev ForK (v : V) (rest : List Stmt) (env : Env) (kf : Flow → Locs → Led → Prop) (I : Addr) (fp : List Addr) (n : Nat) (P : Nat → Value → Prop) (J : Nat → Locs → Led → Prop) (i : Nat) : Flow → Locs → Led → Prop := fun f l G => match f with
  | .next | .cont => J (i + 1) l G ∧ ItW v G I fp n (i + 1) P
  | .brk => W v (execs rest env) l G kf
  | .ret u => kf (.ret u) l G
section
variable {v : V} {l : Locs} {G : Led} {nm : Str} {sc : Scope} {d : Nat} {pos : Pos} {env : Env} {I : Addr} {fp : List Addr} {n i : Nat} {P : Nat → Value → Prop}
theorem W_next {k : Option Value → Locs → Led → Prop} (hv : Ok v nm sc d) (T : ItW v G I fp n i P) (hi : i < n) (h : ∀ a G', P i a → But I G G' → ItW v G' I fp n (i + 1) P → k (some a) l G') : W v (pyNext (.ref I)) l G k := fun s Q E F N c => by
  obtain ⟨St, Wk, ex, hI, hfp, st⟩ := T
  have W1 := Wk v.A hv.hh
  have hst : St i s.heap := st s.heap (fun b o _ m => (N _ m).1) F.keep
  refine W1.item i s Q E hi hst fun a h' tk hP hst' hk => ?_
  have keep : ∀ b o, b ≠ I → s.heap.get? b = some o → h'.get? b = some o := fun b o ne e => hk b o (by simpa using ne) e
  obtain ⟨F', N'⟩ := fr_but F N hI keep
  obtain ⟨o', ho', hq⟩ := ex _ _ hst'
  obtain ⟨o, hI⟩ := hI
  refine c (some a) l ((I, o') :: G.filter fun p => decide (p.1 ≠ I)) h' tk (h a _ hP (fun p m ne => .tail _ (filter_but p m ne)) ⟨St, Wk, ex, ⟨o', .head _⟩, fun b hb => ?_, fun h2 hG hh => ?_⟩) F' fun p hp => ?_
  · by_cases q : b = I
    · exact ⟨o', .inl (q ▸ .head _)⟩
    · obtain ⟨o2, h2 | h2⟩ := hfp b hb
      · exact ⟨o2, .inl (.tail _ (filter_but (b, o2) h2 q))⟩
      · exact ⟨o2, .inr h2⟩
  · refine W1.frame _ _ _ hst' fun b hb o2 e2 => ?_
    by_cases q : b = I
    · subst q
      rw [ho'] at e2; cases e2
      exact hG b o' (.inl rfl) (.head _)
    · obtain ⟨o3, h3 | h3⟩ := hfp b hb
      · have e3 := keep b o3 q (N _ h3).1
        rw [e2] at e3; cases e3
        exact hG b o2 (.inr hb) (.tail _ (filter_but (b, o2) h3 q))
      · have e3 := F'.keep b o3 h3
        rw [e2] at e3; cases e3
        exact hh b o2 h3
  · rcases List.mem_cons.mp hp with rfl | hp
    · exact ⟨ho', (N _ hI).2⟩
    · exact N' p hp
theorem W_done {k : Option Value → Locs → Led → Prop} (hv : Ok v nm sc d) (T : ItW v G I fp n n P) (h : ∀ G', But I G G' → k none l G') : W v (pyNext (.ref I)) l G k := fun s Q E F N c => by
  obtain ⟨St, Wk, ex, hI, hfp, st⟩ := T
  refine (Wk v.A hv.hh).done s Q E (st s.heap (fun b o _ m => (N _ m).1) F.keep) fun h' tk hk => ?_
  obtain ⟨F', N'⟩ := fr_but F N hI fun b o ne e => hk b o (by simpa using ne) e
  exact c none l _ h' tk (h _ filter_but) F' N'
theorem W_self {k : Value → Locs → Led → Prop} (hv : Ok v nm sc d) (T : ItW v G I fp n i P) (h : k (.ref I) l G) : W v (pyIter (.ref I)) l G k := fun s Q E F N c => by
  obtain ⟨St, Wk, ex, hI, hfp, st⟩ := T
  exact (Wk v.A hv.hh).self i s Q E (st s.heap (fun b o _ m => (N _ m).1) F.keep) (c _ l G s.heap s.toks h F N)
theorem W_letGo {target : Expr} {a : Value} {k : Unit → Locs → Led → Prop} (T : ItW v G I fp n i P) (h : k () l G) : W v (letOwnedTupleGo target (.ref I) a) l G k := fun s Q E F N c => by
  obtain ⟨St, Wk, ex, hI, hfp, st⟩ := T
  have hst : St i s.heap := st s.heap (fun b o _ m => (N _ m).1) F.keep
  obtain ⟨o, ho, hq⟩ := ex _ _ hst
  have fin := c () l G s.heap s.toks h F N
  unfold letOwnedTupleGo
  split
  · cases a with
    | ref a =>
      refine wpAny_bind (wpAny_load ho ?_)
      unfold quietO at hq
      split
      · rename_i hc hd
        rw [hc, hd] at hq
        rw [if_neg (by rw [Bool.and_eq_true]; intro q; dsimp only at hq; rw [q.1] at hq; cases hq)]
        exact wpAny_pure fin
      · exact wpAny_pure fin
    | _ => exact wpAny_pure fin
  · cases a with
    | ref a =>
      refine wpAny_bind (wpAny_load ho ?_)
      unfold quietO at hq
      split
      · rename_i hc hd
        rw [hc, hd] at hq
        rw [if_neg (by rw [Bool.and_eq_true]; intro q; dsimp only at hq; rw [q.1] at hq; cases hq)]
        exact wpAny_pure fin
      · exact wpAny_pure fin
    | _ => exact wpAny_pure fin
  · exact wpAny_pure fin
/-- a new object in the ledger -/
theorem new_at {h₀ h : Heap} {m : Str → Option Value} {L : Addr} (F : Fr h₀ L h m) (N : News h₀ L h G) (o : Obj) (hf : o.isFreed = false := by rfl) : Fr h₀ L (h.push o) m ∧ News h₀ L (h.push o) ((h.objs.size, o) :: G) :=
  ⟨F.push _, N.push F o hf⟩
theorem W_iter_list {a : Addr} {vs : List Value} {k : Value → Locs → Led → Prop} (hv : Ok v nm sc d) (T : IL G a vs)
    (h : ∀ I o, (∀ p ∈ G, p.1 < I) → ItW v ((I, o) :: G) I [I, a] vs.length 0 (fun i u => vs[i]? = some u) → k (.ref I) l ((I, o) :: G)) : W v (pyIter (.ref a)) l G k := fun s Q E F N c => by
  have hl := T.list N
  refine wpAny_pyIter_list hl ?_
  obtain ⟨F', N'⟩ := new_at F N { cls := .type "list_iterator", data := .fields #[.ref a, .int 0 0] }
  obtain ⟨oa, ma, ca, na, da⟩ := T
  have ne : a ≠ s.heap.objs.size := Nat.ne_of_lt (Heap.lt_size (N _ ma).1)
  refine c _ l _ _ s.toks (h _ _ (fun p hp => Heap.lt_size (N p hp).1) ⟨_, fun A' hA => by simpa using Walks.list hA s.heap.objs.size a ne vs.toArray, ?_, ⟨_, .head _⟩, ?_, ?_⟩) F' N'
  · rintro j hh ⟨⟨o, ho, hc, hd⟩, _⟩
    refine ⟨o, ho, ?_⟩
    unfold quietO; rw [hc, hd]; rfl
  · intro b hb
    rcases List.mem_cons.mp hb with rfl | hb
    · exact ⟨_, .inl (.head _)⟩
    · have : b = a := by simpa using hb
      subst this
      exact ⟨_, .inl (.tail _ ma)⟩
  · intro h2 hG hh
    exact ⟨⟨_, hG _ _ (.inl rfl) (.head _), rfl, rfl⟩, ⟨_, hG _ _ (.inr (by simp)) (.tail _ ma), ca, na, da⟩⟩
theorem W_iter_tuple {a : Addr} {vs : List Value} {k : Value → Locs → Led → Prop} (hv : Ok v nm sc d) (T : TL G a vs)
    (h : ∀ I o, (∀ p ∈ G, p.1 < I) → ItW v ((I, o) :: G) I [I, a] vs.length 0 (fun i u => vs[i]? = some u) → k (.ref I) l ((I, o) :: G)) : W v (pyIter (.ref a)) l G k := fun s Q E F N c => by
  obtain ⟨oa, ma, ca, na, da⟩ := T
  have hl : s.heap.IsTuple a vs.toArray := ⟨oa, (N _ ma).1, ca, na, da⟩
  refine wpAny_pyIter_tuple hl ?_
  obtain ⟨F', N'⟩ := new_at F N { cls := .type "tuple_iterator", data := .fields #[.ref a, .int 0 0] }
  have ne : a ≠ s.heap.objs.size := Nat.ne_of_lt (Heap.lt_size (N _ ma).1)
  refine c _ l _ _ s.toks (h _ _ (fun p hp => Heap.lt_size (N p hp).1) ⟨_, fun A' hA => by simpa using Walks.tuple hA s.heap.objs.size a ne vs.toArray, ?_, ⟨_, .head _⟩, ?_, ?_⟩) F' N'
  · rintro j hh ⟨⟨o, ho, hc, hd⟩, _⟩
    refine ⟨o, ho, ?_⟩
    unfold quietO; rw [hc, hd]; rfl
  · intro b hb
    rcases List.mem_cons.mp hb with rfl | hb
    · exact ⟨_, .inl (.head _)⟩
    · have : b = a := by simpa using hb
      subst this
      exact ⟨_, .inl (.tail _ ma)⟩
  · intro h2 hG hh
    exact ⟨⟨_, hG _ _ (.inl rfl) (.head _), rfl, rfl⟩, ⟨_, hG _ _ (.inr (by simp)) (.tail _ ma), ca, na, da⟩⟩
theorem W_iter_K {a : Addr} {vs : List Value} {oa : Obj} {na : Nat} {k : Value → Locs → Led → Prop} (hv : Ok v nm sc d) (hk : (K v.w.params).lookup a = some oa) (hc : oa.cls = .type "tuple") (hd : oa.data = .seq vs.toArray na)
    (h : ∀ I o, (∀ p ∈ G, p.1 < I) → ItW v ((I, o) :: G) I [I, a] vs.length 0 (fun i u => vs[i]? = some u) → k (.ref I) l ((I, o) :: G)) : W v (pyIter (.ref a)) l G k := fun s Q E F N c => by
  have ha := hv.X _ _ hk
  have hl : s.heap.IsTuple a vs.toArray := ⟨oa, F.keep _ _ ha, hc, na, hd⟩
  refine wpAny_pyIter_tuple hl ?_
  obtain ⟨F', N'⟩ := new_at F N { cls := .type "tuple_iterator", data := .fields #[.ref a, .int 0 0] }
  have ne : a ≠ s.heap.objs.size := Nat.ne_of_lt (Heap.lt_size (F.keep _ _ ha))
  refine c _ l _ _ s.toks (h _ _ (fun p hp => Heap.lt_size (N p hp).1) ⟨_, fun A' hA => by simpa using Walks.tuple hA s.heap.objs.size a ne vs.toArray, ?_, ⟨_, .head _⟩, ?_, ?_⟩) F' N'
  · rintro j hh ⟨⟨o, ho, hc, hd⟩, _⟩
    refine ⟨o, ho, ?_⟩
    unfold quietO; rw [hc, hd]; rfl
  · intro b hb
    rcases List.mem_cons.mp hb with rfl | hb
    · exact ⟨_, .inl (.head _)⟩
    · have : b = a := by simpa using hb
      subst this
      exact ⟨_, .inr ha⟩
  · intro h2 hG hh
    exact ⟨⟨_, hG _ _ (.inl rfl) (.head _), rfl, rfl⟩, ⟨_, hh _ _ ha, hc, na, hd⟩⟩
theorem W_iter_str {x : Str} {t : Tok} {k : Value → Locs → Led → Prop} (hv : Ok v nm sc d)
    (h : ∀ I o, (∀ p ∈ G, p.1 < I) → ItW v ((I, o) :: G) I [I] x.cps.size 0 (SignAt x) → k (.ref I) l ((I, o) :: G)) : W v (pyIter (.str x t)) l G k := fun s Q E F N c => by
  cases ha : x.cps.all (· < 128)
  · refine wpAny_pyIter_wide ha ?_
    obtain ⟨F', N'⟩ := new_at F N { cls := .type "str_iterator", data := .fields #[.str x t, .int 0 0] }
    refine c _ l _ _ s.toks (h _ _ (fun p hp => Heap.lt_size (N p hp).1) ⟨_, fun A' hA => Walks.strWide hA s.heap.objs.size x t, ?_, ⟨_, .head _⟩, ?_, ?_⟩) F' N'
    · rintro j hh ⟨o, ho, hc, hd⟩
      refine ⟨o, ho, ?_⟩
      unfold quietO; rw [hc, hd]; rfl
    · intro b hb
      have : b = s.heap.objs.size := by simpa using hb
      subst this
      exact ⟨_, .inl (.head _)⟩
    · intro h2 hG hh
      exact ⟨_, hG _ _ (.inl rfl) (.head _), rfl, rfl⟩
  · refine wpAny_pyIter_ascii ha ?_
    obtain ⟨F', N'⟩ := new_at F N { cls := .type "str_ascii_iterator", data := .fields #[.str x t, .int 0 0] }
    refine c _ l _ _ s.toks (h _ _ (fun p hp => Heap.lt_size (N p hp).1) ⟨_, fun A' hA => Walks.strAscii hA s.heap.objs.size x t, ?_, ⟨_, .head _⟩, ?_, ?_⟩) F' N'
    · rintro j hh ⟨o, ho, hc, hd⟩
      refine ⟨o, ho, ?_⟩
      unfold quietO; rw [hc, hd]; rfl
    · intro b hb
      have : b = s.heap.objs.size := by simpa using hb
      subst this
      exact ⟨_, .inl (.head _)⟩
    · intro h2 hG hh
      exact ⟨_, hG _ _ (.inl rfl) (.head _), rfl, rfl⟩
/-- a range of n from 0 -/
def RG (G : Led) (r : Addr) (n : Int) : Prop := ∃ t u w, (r, ({ cls := .type "range", data := .fields #[.int 0 t, .int n u, .int 1 w] } : Obj)) ∈ G
theorem W_range1 {N : Int} {t : Tok} {k : Value → Locs → Led → Prop} (h : ∀ r o, (∀ p ∈ G, p.1 < r) → RG ((r, o) :: G) r N → k (.ref r) l ((r, o) :: G)) : W v (call (.type "range") [.int N t]) l G k := fun s Q E F M c => by
  refine call_range_1 ?_
  obtain ⟨F', N'⟩ := new_at F M { cls := .type "range", data := .fields #[.int 0 s.toks, .int N t, .int 1 (s.toks + 1)] }
  exact c _ l _ _ _ (h _ _ (fun p hp => Heap.lt_size (M p hp).1) ⟨_, _, _, .head _⟩) F' N'
theorem W_iter_range {r : Addr} {N : Int} {k : Value → Locs → Led → Prop} (hv : Ok v nm sc d) (T : RG G r N) (hlo : -(2 ^ 62) ≤ N) (hhi : N < 2 ^ 62)
    (h : ∀ I o, (∀ p ∈ G, p.1 < I) → ItW v ((I, o) :: G) I [I] N.toNat 0 (fun i u => ∃ t, u = .int i t) → k (.ref I) l ((I, o) :: G)) : W v (pyIter (.ref r)) l G k := fun s Q E F M c => by
  obtain ⟨t, u, w, m⟩ := T
  refine wpAny_pyIter_range (t := t) (u := u) (v := w) (M _ m).1 (small_one (by decide) (by decide) hlo hhi) ?_
  obtain ⟨F', N'⟩ := new_at F M { cls := .type "range_iterator", data := .fields #[rawInt 0, rawInt (Builtin.Range.rangeSize 0 N 1), rawInt 1] }
  have hsz : Builtin.Range.rangeSize 0 N 1 = (N.toNat : Int) := by rw [rangeSize_one]; split <;> omega
  refine c _ l _ _ s.toks (h _ _ (fun p hp => Heap.lt_size (M p hp).1) ⟨fun i h => IsRangeIter h s.heap.objs.size (0 + (i : Nat) * 1) ((N.toNat : Int) - (i : Nat)) 1, fun A' hA => ?_, ?_, ⟨_, .head _⟩, ?_, ?_⟩) F' N'
  · have W := Walks.range (prog := pw) (w := v.w) hA s.heap.objs.size 0 1 N.toNat
    simpa using W
  · intro j hh ho
    exact ⟨_, ho, rfl⟩
  · intro b hb
    have : b = s.heap.objs.size := by simpa using hb
    subst this
    exact ⟨_, .inl (.head _)⟩
  · intro h2 hG hh
    have e := hG _ _ (.inl rfl) (.head _)
    rw [hsz] at e
    simpa [IsRangeIter] using e
/-- a for line over an iterator -/
theorem W_For {target iter : Expr} {body rest : List Stmt} {kf : Flow → Locs → Led → Prop}
    (h : W v (eval iter env) l G fun x l1 G1 => W v (pyIter x) l1 G1 fun it l2 G2 => ∃ (I : Addr) (fp : List Addr) (n : Nat) (P : Nat → Value → Prop) (J : Nat → Locs → Led → Prop), it = .ref I ∧ ItW v G2 I fp n 0 P ∧ J 0 l2 G2 ∧
      (∀ i l G G', J i l G → But I G G' → J i l G') ∧
      (∀ i a l G, i < n → P i a → J i l G → ItW v G I fp n (i + 1) P → W v (assign target env a) l G fun _ l3 G3 => W v (execs body env) l3 G3 (ForK v rest env kf I fp n P J i)) ∧
      (∀ l G, J n l G → W v (execs rest env) l G kf))
    {nm : Str} {sc : Scope} {d : Nat} (hv : Ok v nm sc d) (hs : ∀ x, foldedSetIterable iter env x = pure x) : W v (execs (.For target iter body [] pos :: rest) env) l G kf :=
  W_stmt fun s Q E F N c => wpAny_For (h s _ E F N fun x l1 G1 h1 t1 y F1 N1 => y _ _ E F1 N1 fun it l2 G2 h2 t2 z F2 N2 => by
    obtain ⟨I, fp, n, P, J, rfl, T, j0, jb, step, done⟩ := z
    refine codeAny_forLoop_any (fun m s' => ∃ i l G h tk, s' = { s with heap := h, toks := tk } ∧ i ≤ n ∧ m = n - i ∧ J i l G ∧ ItW v G I fp n i P ∧ Fr v.h₀ v.L h (ml l) ∧ News v.h₀ v.L h G) ?_ (n - 0) ⟨0, l2, G2, h2, t2, rfl, Nat.zero_le _, rfl, j0, T, F2, N2⟩
    rintro m s' ⟨i, l, G, h, tk, rfl, hi, rfl, hJ, T, F, N⟩
    rcases Nat.lt_or_ge i n with hlt | hge
    · refine W_next (k := fun r l' G' => l' = l ∧ ∃ a, r = some a ∧ P i a ∧ But I G G' ∧ ItW v G' I fp n (i + 1) P) hv T hlt (fun a G' p b t => ⟨rfl, a, rfl, p, b, t⟩) { s with heap := h, toks := tk } _ _ F N fun r l' G' h' tk' y F' N' => ?_
      obtain ⟨rfl, a, rfl, hP, b, T'⟩ := y
      refine W_letGo (k := fun _ l' G' => W v (assign target env a) l' G' fun _ l3 G3 => W v (execs body env) l3 G3 (ForK v rest env kf I fp n P J i)) T' (step i a l' G' hlt hP (jb _ _ _ _ hJ b) T') { s with heap := h', toks := tk' } _ _ F' N' fun _ l3 G3 h3 t3 y3 F3 N3 => ?_
      refine y3 { s with heap := h3, toks := t3 } _ _ F3 N3 fun _ l4 G4 h4 t4 y4 F4 N4 => ?_
      refine y4 { s with heap := h4, toks := t4 } _ _ F4 N4 fun f l5 G5 h5 t5 y5 F5 N5 => ?_
      cases f with
      | next => exact ⟨n - (i + 1), by omega, i + 1, l5, G5, h5, t5, rfl, hlt, rfl, y5.1, y5.2, F5, N5⟩
      | cont => exact ⟨n - (i + 1), by omega, i + 1, l5, G5, h5, t5, rfl, hlt, rfl, y5.1, y5.2, F5, N5⟩
      | brk => exact c .next l5 G5 h5 t5 y5 F5 N5
      | ret u => exact c (.ret u) l5 G5 h5 t5 y5 F5 N5
    · have : i = n := Nat.le_antisymm hi hge
      subst this
      refine W_done (k := fun r l' G' => r = none ∧ l' = l ∧ But I G G') hv T (fun G' b => ⟨rfl, rfl, b⟩) { s with heap := h, toks := tk } _ _ F N fun r l' G' h' tk' y F' N' => ?_
      obtain ⟨rfl, rfl, b⟩ := y
      exact wpAny_pure (c .next l' G' h' tk' (done _ _ (jb _ _ _ _ hJ b)) F' N')) hs
end

/-- the names of a comprehension, an object of the ledger -/
def NL (G : Led) (C : Addr) (lc : Locs) : Prop := ∃ o es ep, (C, o) ∈ G ∧ o.data = .dict es ep ∧ StrKeys es ∧ ∀ name, nsFind es name = ml lc name
theorem NL.sub {G G' : Led} {C : Addr} {lc : Locs} (T : NL G C lc) (s : Sub G G') : NL G' C lc := let ⟨o, es, ep, m, r⟩ := T; ⟨o, es, ep, s _ m, r⟩
theorem NL.but {G G' : Led} {C a : Addr} {lc : Locs} (T : NL G C lc) (s : But a G G') (ne : C ≠ a) : NL G' C lc := let ⟨o, es, ep, m, r⟩ := T; ⟨o, es, ep, s _ m ne, r⟩
theorem NL.ns {G : Led} {C : Addr} {lc : Locs} {h₀ h : Heap} {L : Addr} (T : NL G C lc) (N : News h₀ L h G) : h.Ns C (ml lc) := let ⟨o, es, ep, m, r⟩ := T; ⟨o, es, ep, (N _ m).1, r⟩
theorem ml_cons {x : Str} {u : Value} {l : Locs} : (fun y => if y = x then some u else ml l y) = ml ((x, u) :: l) := by
  funext y
  show _ = List.lookup y ((x, u) :: l)
  rw [List.lookup_cons]
  by_cases q : y = x
  · subst q; simp
  · rw [if_neg q, show (y == x) = false by simpa using q]; rfl
def compOk (scope : Scope) : Bool := (scope.names.all fun y => y.2 != .cell) && scope.kind == .function && (scope.names.all fun y => y.2 != .local || scope.names.lookup y.1 == some .local)
section
variable {prog : Program} {w : World} {A : Around} {E : Value → Shared → Prop} {R : Result → Shared → Prop} {s : Shared}
theorem comp_any {elt iter target : Expr} {scope : Scope} {pos : Pos} {it acc : Value} {env : Env} (I : Nat → Shared → Prop)
    (turn : ∀ n s, I n s → wpAny (model prog w) A (pyNext it) (fun r s₁ => match r with
      | none => R (.ok .next) s₁
      | some v => wpAny (model prog w) A (letOwnedTupleGo target it v) (fun _ s₁' => wpAny (model prog w) A (assign target env v) (fun _ s₂ =>
          wpAny (model prog w) A (eval elt env) (fun x s₄ =>
              wpAny (model prog w) A (call (.builtin "list.append") [acc, x]) (fun _ s₅ => ∃ m, m < n ∧ I m s₅) (notedBy (model prog w) A env fun e s' => R (.error e) s') s₄) (notedBy (model prog w) A env fun e s' => R (.error e) s') s₂)
          (notedBy (model prog w) A env fun e s' => R (.error e) s') s₁') (notedBy (model prog w) A env fun e s' => R (.error e) s') s₁) (notedBy (model prog w) A env fun e s' => R (.error e) s') s)
    (n : Nat) (h : I n s) : codeAny (model prog w) A (.compLoop (.ListComp elt [⟨target, iter, [], 0⟩] scope pos) 0 it acc env) R s := by
  refine codeAny_loop rfl I (fun n s hI => ?_) n h
  show wpAny _ A ((compTurn (.ListComp elt [⟨target, iter, [], 0⟩] scope pos) 0 it acc env).onRaise (fun x => do noteFrame x env; theTreesLotGoes x)) _ _ s
  refine wpAny_noted ?_
  rw [compTurn_list]
  refine wpAny_bind (wpAny_standAt (wpAny_bind (wpAny_mono (turn n s hI) (fun r s₁ h₁ => ?_) fun _ _ h' => h')))
  cases r with
  | none => exact wpAny_pure h₁
  | some v =>
    refine wpAny_bind (wpAny_mono h₁ (fun _ s₁' h₁' => ?_) fun _ _ h' => h')
    refine wpAny_bind (wpAny_mono h₁' (fun _ s₂ h₂ => wpAny_bind (wpAny_mono (wpAny_tests_nil (Q := fun ok s₃ => ok = true ∧ s₃ = s₂) ⟨rfl, rfl⟩) (fun ok s₃ h₃ => ?_) fun _ _ h' => h')) fun _ _ h' => h')
    obtain ⟨rfl, rfl⟩ := h₃
    exact wpAny_bind (wpAny_bind (wpAny_mono h₂ (fun x s₄ h₄ => wpAny_bind (wpAny_mono h₄ (fun _ s₅ h₅ => wpAny_pure (wpAny_pure ⟨rfl, h₅⟩)) fun _ _ h' => h')) fun _ _ h' => h'))
end
section
variable {v : V} {l : Locs} {G : Led} {nm : Str} {sc : Scope} {d : Nat} {pos : Pos}
/-- what a comprehension's turns must show -/
def CompTurns (v : V) (env : Env) (scope : Scope) (cl : List (Str × Addr)) (target elt : Expr) (l : Locs) (I : Addr) (fp : List Addr) (n : Nat) (P : Nat → Value → Prop) (C D : Addr) (G₀ : Led) (k : Value → Locs → Led → Prop) : Prop :=
  ∃ J : Nat → List Value → Led → Prop, J 0 [] G₀ ∧ (∀ i acc G G', J i acc G → But I G G' → J i acc G') ∧
    (∀ i acc lc a G, i < n → P i a → J i acc G → ItW v G I fp n (i + 1) P → NL G C lc → PL G D acc → W v (assign target (compEnvC scope cl C env) a) l G fun _ l3 G3 => W v (eval elt (compEnvC scope cl C env)) l3 G3 fun y l4 G4 =>
      l4 = l ∧ ItW v G4 I fp n (i + 1) P ∧ (∃ lc', NL G4 C lc') ∧ PL G4 D acc ∧ ∀ G5, But D G4 G5 → PL G5 D (acc ++ [y]) → J (i + 1) (acc ++ [y]) G5) ∧
    (∀ acc G, acc.length = n → J n acc G → PL G D acc → ∀ G', But C G G' → PL G' D acc → k (.ref D) l G')
theorem W_append {D : Addr} {acc : List Value} {y : Value} {k : Value → Locs → Led → Prop} (T : PL G D acc) (hsz : acc.length ≤ sizeLine) (h : ∀ G', But D G G' → PL G' D (acc ++ [y]) → k .none l G') : W v (call (.builtin "list.append") [.ref D, y]) l G k := fun s Q E F N c => by
  obtain ⟨n, m⟩ := T
  refine wpAny_list_append_plain (hsz := by simpa using hsz) ⟨n, (N _ m).1⟩ fun h' ⟨n', hl⟩ hs => ?_
  obtain ⟨F', _⟩ := fr_but F N ⟨_, m⟩ fun b o ne e => (hs.2 b ne).trans e
  have e : W.listOf (acc ++ [y]).toArray n' = { cls := .type "list", data := .seq (acc.toArray.push y) n' } := by simp [W.listOf]
  refine c .none l _ h' s.toks (h (upd G D (W.listOf (acc ++ [y]).toArray n')) upd_but ⟨n', upd_at⟩) F' (news_put N m hs (by rw [e]; exact hl))
theorem comp_run {elt iter target : Expr} {scope : Scope} {cl : List (Str × Addr)} {cpos : Pos} {I : Addr} {fp : List Addr} {n : Nat} {P : Nat → Value → Prop} {k : Value → Locs → Led → Prop} (hv : Ok v nm sc d) (hok : compOk scope = true) (hn : n ≤ sizeLine)
    (T : ItW v G I fp n 0 P) (h : ∀ C D G3, Sub G G3 → (∀ p ∈ G, p.1 < D) → (∀ b ∈ fp, b < D) → D < C → NL G3 C [] → PL G3 D [] → CompTurns v (v.env nm sc) scope cl target elt l I fp n P C D G3 k)
    (s : Shared) (E : Value → Shared → Prop) (RR : Value → Addr → Result → Shared → Prop) (F : Fr v.h₀ v.L s.heap (ml l)) (N : News v.h₀ v.L s.heap G)
    (fin : ∀ C D acc l' G' h' tk', NL G' C acc → D ≠ C → (∀ G2, But C G' G2 → k (.ref D) l' G2) → Fr v.h₀ v.L h' (ml l') → News v.h₀ v.L h' G' → RR (.ref D) C (.ok .next) { s with heap := h', toks := tk' }) :
    wpAny (model pw v.w) v.A (newList []) (fun acc s₃ => wpAny (model pw v.w) v.A (newFunctionEnv scope (v.env nm sc).globals cl [] (v.env nm sc).qual none .none (some (v.env nm sc))) (fun cenv s₄ =>
      codeAny (model pw v.w) v.A (.compStart (.ListComp elt [⟨target, iter, [], 0⟩] scope cpos) 0 (.ref I) acc { cenv with scope := relabel scope (v.env nm sc) }) (RR acc cenv.locals) s₄) E s₃) E s := by
  unfold compOk at hok
  simp only [Bool.and_eq_true, List.all_eq_true, bne_iff_ne, beq_iff_eq, Bool.or_eq_true] at hok
  obtain ⟨⟨hcell, hkind⟩, hnames⟩ := hok
  refine wpAny_newObj_type (wpAny_newFunctionEnv hcell (by intro y hy; simp at hy) (fun h₁ hns₁ hsb₁ => ?_) hkind)
  dsimp only at hns₁ hsb₁ ⊢
  obtain ⟨F2, N2⟩ := new_at F N { cls := .type "list", dict := none, data := .seq ([] : List Value).toArray }
  generalize hH2 : s.heap.push { cls := .type "list", dict := none, data := .seq ([] : List Value).toArray } = H2 at hns₁ hsb₁ F2 N2 ⊢
  obtain ⟨F3, N3⟩ := new_at F2 N2 { cls := .type (if (some (v.env nm sc)).isSome then "dict" else "frame"), data := .dict #[] }
  obtain ⟨oC, esC, epC, hoC, rC⟩ := hns₁
  have hC : H2.objs.size = s.heap.objs.size + 1 := by rw [← hH2, Heap.size_push]
  obtain ⟨F4, N4'⟩ := fr_but F3 N3 ⟨_, .head _⟩ fun b o ne e => (hsb₁.2 b ne).trans e
  have N4 : News v.h₀ v.L h₁ ((H2.objs.size, oC) :: (s.heap.objs.size, W.listOf ([] : List Value).toArray 0) :: G) := by
    intro p hp
    rcases List.mem_cons.mp hp with rfl | hp
    · exact ⟨hoC, (N3 _ (.head _)).2⟩
    · refine N4' p (List.mem_filter.mpr ⟨.tail _ hp, ?_⟩)
      have : p.1 < H2.objs.size := by
        rcases List.mem_cons.mp hp with rfl | hp
        · rw [hC]; exact Nat.lt_succ_self _
        · rw [hC]; exact Nat.lt_succ_of_lt (Heap.lt_size (N p hp).1)
      simpa using Nat.ne_of_lt this
  have hfp : ∀ b ∈ fp, b < s.heap.objs.size := by
    obtain ⟨St, Wk, ex, hI, hfp, st⟩ := T
    intro b hb
    obtain ⟨o, h | h⟩ := hfp b hb
    · exact Heap.lt_size (N _ h).1
    · exact Heap.lt_size (F.keep _ _ h)
  have hIlt : I < s.heap.objs.size := by
    obtain ⟨St, Wk, ex, ⟨o, hI⟩, _⟩ := T
    exact Heap.lt_size (N _ hI).1
  have T4 : ItW v ((H2.objs.size, oC) :: (s.heap.objs.size, W.listOf ([] : List Value).toArray 0) :: G) I fp n 0 P := T.sub fun p m => .tail _ (.tail _ m)
  have hlt : s.heap.objs.size < H2.objs.size := by rw [hC]; exact Nat.lt_succ_self _
  obtain ⟨J, j0, jb, step, done⟩ := h H2.objs.size s.heap.objs.size _ (fun p m => .tail _ (.tail _ m)) (fun p hp => Heap.lt_size (N p hp).1) hfp hlt ⟨oC, esC, epC, .head _, rC⟩ ⟨0, .tail _ (.head _)⟩
  have loop : ∀ s₃ : Shared, s₃ = { s with heap := h₁, toks := s.toks + ([] : List (Str × Value)).length } →
      codeAny (model pw v.w) v.A (.compLoop (.ListComp elt [⟨target, iter, [], 0⟩] scope cpos) 0 (.ref I) (.ref s.heap.objs.size) (compEnvC scope cl H2.objs.size (v.env nm sc))) (RR (.ref s.heap.objs.size) H2.objs.size) s₃ := by
    rintro s₃ rfl
    refine comp_any (fun m s' => ∃ i acc lc G h tk, s' = { s with heap := h, toks := tk } ∧ i ≤ n ∧ m = n - i ∧ acc.length = i ∧ J i acc G ∧ ItW v G I fp n i P ∧ NL G H2.objs.size lc ∧ PL G s.heap.objs.size acc ∧ Fr v.h₀ v.L h (ml l) ∧ News v.h₀ v.L h G) ?_ (n - 0)
      ⟨0, [], [], _, h₁, _, rfl, Nat.zero_le _, rfl, rfl, j0, T4, ⟨oC, esC, epC, .head _, rC⟩, ⟨0, .tail _ (.head _)⟩, F4, N4⟩
    rintro m s' ⟨i, acc, lc, G, hp, tk, rfl, hi, rfl, hlen, hJ, T, NC, PD, F, N⟩
    rcases Nat.lt_or_ge i n with hlt' | hge
    · refine W_next (k := fun r l' G' => l' = l ∧ ∃ a, r = some a ∧ P i a ∧ But I G G' ∧ ItW v G' I fp n (i + 1) P) hv T hlt' (fun a G' p b t => ⟨rfl, a, rfl, p, b, t⟩) { s with heap := hp, toks := tk } _ _ F N fun r l' G' h' tk' y F' N' => ?_
      obtain ⟨e1, a, rfl, hP, b, T'⟩ := y
      rw [e1] at F'
      have stp := step i acc lc a G' hlt' hP (jb _ _ _ _ hJ b) T' (NC.but b (by intro q; rw [← q] at hIlt; exact Nat.lt_asymm hIlt hlt)) (PD.but b (by intro q; rw [← q] at hIlt; exact Nat.lt_irrefl _ hIlt))
      refine W_letGo (k := fun _ l' G' => W v (assign target (compEnvC scope cl H2.objs.size (v.env nm sc)) a) l' G' fun _ l3 G3 => W v (eval elt (compEnvC scope cl H2.objs.size (v.env nm sc))) l3 G3 fun y l4 G4 =>
        l4 = l ∧ ItW v G4 I fp n (i + 1) P ∧ (∃ lc', NL G4 H2.objs.size lc') ∧ PL G4 s.heap.objs.size acc ∧ ∀ G5, But s.heap.objs.size G4 G5 → PL G5 s.heap.objs.size (acc ++ [y]) → J (i + 1) (acc ++ [y]) G5) T' stp { s with heap := h', toks := tk' } _ _ F' N' fun _ l3 G3 h3 t3 y3 F3 N3 => ?_
      refine y3 { s with heap := h3, toks := t3 } _ _ F3 N3 fun _ l4 G4 h4 t4 y4 F4 N4 => ?_
      refine y4 { s with heap := h4, toks := t4 } _ _ F4 N4 fun y l5 G5 h5 t5 y5 F5 N5 => ?_
      obtain ⟨e5, T5, ⟨lc', NC5⟩, PD5, hj⟩ := y5
      refine W_append (k := fun _ l' G' => l' = l5 ∧ But s.heap.objs.size G5 G' ∧ PL G' s.heap.objs.size (acc ++ [y])) PD5 (by omega) (fun G' b p => ⟨rfl, b, p⟩) { s with heap := h5, toks := t5 } _ _ F5 N5 fun _ l6 G6 h6 t6 y6 F6 N6 => ?_
      obtain ⟨e6, b6, p6⟩ := y6
      rw [e6, e5] at F6
      exact ⟨n - (i + 1), by omega, i + 1, acc ++ [y], lc', G6, h6, t6, rfl, hlt', rfl, by rw [List.length_append, hlen]; rfl, hj G6 b6 p6,
        T5.but b6 (Nat.ne_of_lt hIlt) (fun hm => Nat.lt_irrefl _ (hfp _ hm)), NC5.but b6 (Nat.ne_of_gt hlt), p6, F6, N6⟩
    · have e : i = n := Nat.le_antisymm hi hge
      rw [e] at hlen hJ T
      refine W_done (k := fun r l' G' => r = none ∧ l' = l ∧ But I G G') hv T (fun G' b => ⟨rfl, rfl, b⟩) { s with heap := hp, toks := tk } _ _ F N fun r l' G' h' tk' y F' N' => ?_
      obtain ⟨rfl, e1, b⟩ := y
      rw [e1] at F'
      have PD' : PL G' s.heap.objs.size acc := PD.but b (by intro q; rw [← q] at hIlt; exact Nat.lt_irrefl _ hIlt)
      exact fin _ _ lc l G' h' tk' (NC.but b (by intro q; rw [← q] at hIlt; exact Nat.lt_asymm hIlt hlt)) (Nat.ne_of_lt hlt) (fun G2 b2 => done acc G' hlen (jb _ _ _ _ hJ b) PD' G2 b2 (PD'.but b2 (Nat.ne_of_lt hlt))) F' N'
  obtain ⟨St, Wk, ex, hI4, hfp4, st4⟩ := id T4
  exact codeAny_compStart_list (loop _ rfl) ((Wk v.A hv.hh).self 0 _ _ _ (st4 h₁ (fun b o _ m => (N4 _ m).1) F4.keep) (loop _ rfl))
theorem W_ListComp {elt iter target : Expr} {scope : Scope} {cl : List (Str × Addr)} {k : Value → Locs → Led → Prop} (hv : Ok v nm sc d) (hclos : closureFor scope (v.env nm sc) = pure cl) (hok : compOk scope = true)
    (h : W v (eval iter (v.env nm sc)) l G fun xv l1 G1 => W v (pyIter xv) l1 G1 fun it l2 G2 => ∃ (I : Addr) (fp : List Addr) (n : Nat) (P : Nat → Value → Prop), it = .ref I ∧ n ≤ sizeLine ∧ ItW v G2 I fp n 0 P ∧
      ∀ C D G3, Sub G2 G3 → (∀ p ∈ G2, p.1 < D) → (∀ b ∈ fp, b < D) → D < C → NL G3 C [] → PL G3 D [] → CompTurns v (v.env nm sc) scope cl target elt l2 I fp n P C D G3 k)
    (hs : ∀ x, foldedSetIterable iter (v.env nm sc) x = pure x) : W v (eval (.ListComp elt [⟨target, iter, [], 0⟩] scope pos) (v.env nm sc)) l G k := fun s Q E F N c => by
  have hok' := hok
  unfold compOk at hok'
  simp only [Bool.and_eq_true, List.all_eq_true, bne_iff_ne, beq_iff_eq, Bool.or_eq_true] at hok'
  obtain ⟨⟨hcell, hkind⟩, hnames⟩ := hok'
  rw [eval_ListComp]
  refine wpAny_comprehension_free (use := none) rfl hs hclos hkind (fun x hx e => by rcases hnames x hx with h | h; exact absurd e h; exact h) (h s _ E F N fun xv l1 G1 h1 t1 y1 F1 N1 => y1 { s with heap := h1, toks := t1 } _ E F1 N1 fun it l2 G2 h2 t2 y2 F2 N2 => ?_)
  obtain ⟨I, fp, n, P, rfl, hn, T, y⟩ := y2
  refine comp_run hv hok hn T y { s with heap := h2, toks := t2 } E (fun acc C => compPost (model pw v.w) v.A E none Q acc C) F2 N2 fun C D lc l' G' h' tk' NC ne fin F' N' => ?_
  obtain ⟨oC, esC, epC, mC, rC⟩ := NC
  refine ⟨ml lc, ⟨oC, esC, epC, (N' _ mC).1, rC⟩, fun h'' hs'' => ?_⟩
  obtain ⟨F'', N''⟩ := fr_but F' N' ⟨_, mC⟩ fun b o ne e => (hs''.2 b ne).trans e
  exact c (.ref D) l' _ h'' tk' (fin _ filter_but) F'' N''
theorem W_AssignComp {elt iter target : Expr} {y : Str} {py spos : Pos} {rest : List Stmt} {kf : Flow → Locs → Led → Prop} {scope : Scope} {cl : List (Str × Addr)} (hv : Ok v nm sc d) (hclos : closureFor scope (v.env nm sc) = pure cl) (hok : compOk scope = true)
    (h : W v (eval iter (v.env nm sc)) l G fun xv l1 G1 => W v (pyIter xv) l1 G1 fun it l2 G2 => ∃ (I : Addr) (fp : List Addr) (n : Nat) (P : Nat → Value → Prop), it = .ref I ∧ n ≤ sizeLine ∧ ItW v G2 I fp n 0 P ∧
      ∀ C D G3, Sub G2 G3 → (∀ p ∈ G2, p.1 < D) → (∀ b ∈ fp, b < D) → D < C → NL G3 C [] → PL G3 D [] → CompTurns v (v.env nm sc) scope cl target elt l2 I fp n P C D G3 fun a l3 G4 => W v (execs rest (v.env nm sc)) ((y, a) :: l3) G4 kf)
    (hsw : swapsWith (.ListComp elt [⟨target, iter, [], 0⟩] scope pos) (some (.Name y py)) spos.line (v.env nm sc) = pure true) (hy : sc.names.lookup y = some .local)
    (hs : ∀ x, foldedSetIterable iter (v.env nm sc) x = pure x) : W v (execs (.Assign [.Name y py] (.ListComp elt [⟨target, iter, [], 0⟩] scope pos) spos :: rest) (v.env nm sc)) l G kf := W_stmt fun s Q E F N c => by
  have hok' := hok
  unfold compOk at hok'
  simp only [Bool.and_eq_true, List.all_eq_true, bne_iff_ne, beq_iff_eq, Bool.or_eq_true] at hok'
  obtain ⟨⟨hcell, hkind⟩, hnames⟩ := hok'
  rw [exec_Assign_Name_used _ _ _ _ hsw]
  refine wpAny_bind (wpAny_standAt (wpAny_bind ?_))
  show wpAny _ v.A (do let _ ← comprehension (.ListComp elt [⟨target, iter, [], 0⟩] scope pos) scope (v.env nm sc) _ (newList []) false (eval iter (v.env nm sc)) (some (assign (.Name y py) (v.env nm sc)))) _ _ s
  refine wpAny_bind (wpAny_mono (wpAny_comprehension_free (Q := fun _ s' => Q .next s') rfl hs hclos hkind (fun x hx e => by rcases hnames x hx with h | h; exact absurd e h; exact h) (h s _ E F N fun xv l1 G1 h1 t1 y1 F1 N1 => y1 { s with heap := h1, toks := t1 } _ E F1 N1 fun it l2 G2 h2 t2 y2 F2 N2 => ?_))
    (fun _ s' hq => wpAny_pure (wpAny_pure hq)) fun _ _ e => e)
  obtain ⟨I, fp, n, P, rfl, hn, T, yy⟩ := y2
  refine comp_run hv hok hn T yy { s with heap := h2, toks := t2 } E (fun acc C => compPost (model pw v.w) v.A E (some (assign (.Name y py) (v.env nm sc))) (fun _ s' => Q .next s') acc C) F2 N2 fun C D lc l' G' h' tk' NC ne fin F' N' => ?_
  obtain ⟨oC, esC, epC, mC, rC⟩ := NC
  refine W_asgName (W_store (k := fun _ l'' G'' => l'' = (y, .ref D) :: l' ∧ G'' = G') hv ⟨rfl, rfl⟩ hy) { s with heap := h', toks := tk' } _ _ F' N' fun _ l'' G'' h3 t3 e F3 N3 => ?_
  obtain ⟨e1, e2⟩ := e
  rw [e1] at F3
  rw [e2] at N3
  refine ⟨ml lc, ⟨oC, esC, epC, (N3 _ mC).1, rC⟩, fun h'' hs'' => ?_⟩
  obtain ⟨F'', N''⟩ := fr_but F3 N3 ⟨_, mC⟩ fun b o ne e => (hs''.2 b ne).trans e
  exact c .next _ _ h'' t3 (fin _ filter_but) F'' N''
-- names within a comprehension
variable {scope : Scope} {cl : List (Str × Addr)} {C : Addr} {lc : Locs} {k : Value → Locs → Led → Prop} {x : Str} {u : Value}
theorem W_clocal (T : NL G C lc) (hl : lc.lookup x = some u) (h : k u l G) (hk : scope.kind = .function) (hx : scope.names.lookup x = some .local) (hd : (x == ("__debug__" : Str)) = false) : W v (eval (.Name x pos) (compEnvC scope cl C (v.env nm sc))) l G k :=
  fun s Q E F N c => wpAny_Name (wpAny_loadName_local (env := compEnvC scope cl C (v.env nm sc)) hk (lookup_relabel_local hx) (T.ns N) hl (c u l G s.heap s.toks h F N)) hd
theorem W_ccell {a : Addr} {o : Obj} (hc : cl.lookup x = some a) (hm : (a, o) ∈ G) (ho : o.data = .cell (some u)) (h : k u l G) (hk : scope.kind = .function) (hx : (compEnvC scope cl C (v.env nm sc)).kindOf x = some .cell) (hd : (x == ("__debug__" : Str)) = false) : W v (eval (.Name x pos) (compEnvC scope cl C (v.env nm sc))) l G k :=
  fun s Q E F N c => wpAny_Name (wpAny_loadName_cell (env := compEnvC scope cl C (v.env nm sc)) hk hx hc ⟨o, (N _ hm).1, ho⟩ (c u l G s.heap s.toks h F N)) hd
theorem W_cglob (hv : Ok v nm sc d) (e : nsIn (K v.w.params) mainGlobals x = some (some u)) (h : k u l G) (hk : scope.kind = .function) (hx : (compEnvC scope cl C (v.env nm sc)).kindOf x = some .globalImplicit) (hd : (x == ("__debug__" : Str)) = false) : W v (eval (.Name x pos) (compEnvC scope cl C (v.env nm sc))) l G k :=
  fun s Q E F N c => by
    obtain ⟨_, _, _, _, T⟩ := hv.T
    exact Name_function_global (env := compEnvC scope cl C (v.env nm sc)) hk hx (loadGlobal_global (T.g.keeps F.keep) (mg_of hv.X T.g e) (c u l G s.heap s.toks h F N)) hd
theorem W_cstore {kk : Unit → Locs → Led → Prop} (T : NL G C lc) (h : ∀ G', But C G G' → NL G' C ((x, u) :: lc) → kk () l G') (hk : scope.kind = .function) (hx : scope.names.lookup x = some .local) : W v (storeName (compEnvC scope cl C (v.env nm sc)) x u) l G kk := fun s Q E F N c => by
  have T' := T
  obtain ⟨o, es, ep, m, r⟩ := T'
  refine wpAny_storeName_local (env := compEnvC scope cl C (v.env nm sc)) (lookup_relabel_local hx) (T.ns N) (fun h' hn hs => ?_) (by simp [compEnvC, relabel, hk])
  obtain ⟨o', es', ep', ho', r'⟩ := hn
  obtain ⟨F', _⟩ := fr_but F N ⟨_, m⟩ fun b o ne e => (hs.2 b ne).trans e
  have e := ml_cons (x := x) (u := u) (l := lc)
  refine c () l _ h' _ (h (upd G C o') upd_but ⟨o', es', ep', upd_at, ?_⟩) F' (news_put N m hs ho')
  rw [← e]; exact r'
end

theorem Ok.high {v : V} {nm : Str} {sc : Scope} {d : Nat} (hv : Ok v nm sc d) : sysModules < v.h₀.objs.size := by
  obtain ⟨_, _, _, _, T⟩ := hv.T
  exact modules_low T.nolimit
abbrev SubK2 (v : V) (value slice : Expr) (o : Value) (k : Vk) : Vk := fun i l G => W v (subscriptTail value slice o i) l G k
abbrev SubK1 (v : V) (value slice : Expr) (env : Env) (k : Vk) : Vk := fun o l G => W v (eval slice env) l G (SubK2 v value slice o k)
abbrev TupK (v : V) (k : Value → Locs → Led → Prop) : List Value → Locs → Led → Prop := fun vs l G => W v (newTuple vs) l G k
abbrev ListK (v : V) (k : Value → Locs → Led → Prop) : List Value → Locs → Led → Prop := fun vs l G => W v (newList vs) l G k
section
variable {v : V} {l : Locs} {G : Led} {nm : Str} {sc : Scope} {d : Nat} {k : Value → Locs → Led → Prop} {kb : Bool → Locs → Led → Prop} {pos : Pos} {env : Env}
-- displays
theorem W_newTuple {vs : List Value} (hsz : vs.length ≤ sizeLine) (h : ∀ t o, (∀ p ∈ G, p.1 < t) → TL ((t, o) :: G) t vs → k (.ref t) l ((t, o) :: G)) : W v (newTuple vs) l G k := fun s Q E F N c =>
  newTuple_N F N (fun h' F' N' => c _ l _ h' s.toks (h _ _ (fun p hp => Heap.lt_size (N p hp).1) ⟨_, .head _, rfl, _, rfl⟩) F' N') hsz
theorem W_newList {vs : List Value} (hsz : vs.length ≤ sizeLine) (h : ∀ t o, (∀ p ∈ G, p.1 < t) → PL ((t, o) :: G) t vs → k (.ref t) l ((t, o) :: G)) : W v (newList vs) l G k := fun s Q E F N c =>
  newList_K F N (fun t h' F' N' lt => c _ l _ h' s.toks (h t _ lt ⟨_, .head _⟩) F' N') hsz
theorem W_Tuple {elts : List Expr} {kk : Nat} (h : Args v env elts l G (TupK v k)) (hp : noStar elts = true) : W v (eval (.Tuple elts kk pos) env) l G k := fun s Q E F N c =>
  Tuple_ ((Args_w hp h) s _ E F N fun vs l1 G1 h1 t1 x F1 N1 => x { s with heap := h1, toks := t1 } Q E F1 N1 c)
theorem W_List {elts : List Expr} (h : Args v env elts l G (ListK v k)) (hp : noStar elts = true) : W v (eval (.List elts pos) env) l G k := fun s Q E F N c =>
  List_ ((Args_w hp h) s _ E F N fun vs l1 G1 h1 t1 x F1 N1 => x { s with heap := h1, toks := t1 } Q E F1 N1 c)
-- subscripts
theorem W_Sub {value slice : Expr} (h : W v (eval value env) l G (SubK1 v value slice env k)) : W v (eval (.Subscript value slice pos) env) l G k := fun s Q E F N c =>
  Subscript_ (h s _ E F N fun a l1 G1 h1 t1 x F1 N1 => x { s with heap := h1, toks := t1 } _ E F1 N1 fun b l2 G2 h2 t2 y F2 N2 => y { s with heap := h2, toks := t2 } Q E F2 N2 c)
variable {value slice : Expr} {x y : Str} {t u : Tok} {i j : Int}
theorem W_sub_str {c : Nat} (h0 : 0 ≤ i) (h1 : i < 2 ^ 63) (hc : x.cps[i.toNat]? = some c) (h : ∀ t, k (.str ⟨#[c]⟩ t) l G)
    (hs : subscripted slice false (.str x t) (.int i u) = operate [.int i u, .str x t] (getItem (.str x t) (.int i u))) : W v (subscriptTail value slice (.str x t) (.int i u)) l G k := fun s Q E F N cc =>
  tail_any (ops := [.int i u, .str x t]) (typeIs_str s x t) PyProof.Rows.slot_str_getitem.lookup (PyProof.Rows.getItem_str (c := c) (by simp; omega) (by
    have hlt : i.toNat < x.cps.size := by
      rcases Nat.lt_or_ge i.toNat x.cps.size with q | q
      · exact q
      · rw [Array.getElem?_eq_none q] at hc; cases hc
    have e : seqIndex? i x.length = some i.toNat := by
      have hl : x.length = x.cps.size := rfl
      have e1 : (if i < 0 then i + (x.length : Int) else i) = i := if_neg (by omega)
      unfold seqIndex?
      dsimp only
      rw [e1, if_pos (by rw [Bool.and_eq_true]; exact ⟨decide_eq_true h0, decide_eq_true (by rw [hl]; omega)⟩)]
    rw [e]; exact hc) (cc _ l G s.heap _ (h _) F N)) hs
theorem W_sub_list {a : Addr} {vs : List Value} {w : Value} (T : IL G a vs) (h0 : 0 ≤ i) (h1 : i < 2 ^ 63) (hi : vs[i.toNat]? = some w) (h : k w l G)
    (hs : subscripted slice false (.ref a) (.int i u) = operate [.ref a, .int i u] (getItem (.ref a) (.int i u))) : W v (subscriptTail value slice (.ref a) (.int i u)) l G k := fun s Q E F N c => by
  have hl := T.list N
  exact tail_any (ops := [.ref a, .int i u]) hl.typeIs slot_list_getitem.lookup (wpAny_getItem_list hl h0 h1 (by simpa using hi) (c _ l G s.heap s.toks h F N)) hs
theorem W_sub_tuple {a : Addr} {vs : List Value} {w : Value} (T : TL G a vs) (h0 : 0 ≤ i) (h1 : i < 2 ^ 63) (hi : vs[i.toNat]? = some w) (h : k w l G)
    (hs : subscripted slice false (.ref a) (.int i u) = operate [.ref a, .int i u] (getItem (.ref a) (.int i u))) : W v (subscriptTail value slice (.ref a) (.int i u)) l G k := fun s Q E F N c => by
  have hlt : i.toNat < vs.length := by
    rcases Nat.lt_or_ge i.toNat vs.length with q | q
    · exact q
    · rw [List.getElem?_eq_none q] at hi; cases hi
  refine item_tupleT (j := i.toNat) (T.tup N) (by omega) h1 ?_ hi (c _ l G s.heap s.toks h F N) hs
  have e1 : (if i < 0 then i + (vs.length : Int) else i) = i := if_neg (by omega)
  unfold seqIndex?
  dsimp only
  rw [e1, if_pos (by rw [Bool.and_eq_true]; exact ⟨decide_eq_true h0, decide_eq_true (by omega)⟩)]
-- slices of strings
def strOf (x : Str) (t : Tok) : Value := .str x t
theorem W_slice_ss {lo hi : Expr} {p : Pos} (h : W v (eval value env) l G fun o l1 G1 => W v (eval lo env) l1 G1 fun a l2 G2 => W v (eval hi env) l2 G2 fun b l3 G3 => ∃ x t i ui j uj, o = .str x t ∧ a = .int i ui ∧ b = .int j uj ∧ x.length ≤ sizeLine ∧ ∀ t', k (.str (Txt.slice x (some i) (some j)) t') l3 G3)
    (hs : ∀ x t D, subscripted (.Slice (some lo) (some hi) none p) false (.str x t) (.ref D) = operate [.ref D, .str x t] (getItem (.str x t) (.ref D))) (hg : ∀ x t r, letTemporaryGo value (.str x t) r = pure ()) :
    W v (eval (.Subscript value (.Slice (some lo) (some hi) none p) pos) env) l G k := fun s Q E F N c => by
  refine Subscript_ (h s _ E F N fun o l1 G1 h1 t1 x1 F1 N1 => ?_)
  show wpAny _ _ (do
    let l ← eval lo env
    let u ← holding [l] (eval hi env)
    let s ← holding [l, u] (valueOrNone none)
    newFields "slice" [l, u, s]) _ _ _
  refine wpAny_bind (x1 { s with heap := h1, toks := t1 } _ E F1 N1 fun a l2 G2 h2 t2 x2 F2 N2 => wpAny_bind (wpAny_holding (x2 { s with heap := h2, toks := t2 } _ E F2 N2 fun b l3 G3 h3 t3 x3 F3 N3 => wpAny_bind (wpAny_holding (wpAny_pure ?_)))))
  obtain ⟨x, t, i, ui, j, uj, rfl, rfl, rfl, hsz, hk⟩ := x3
  refine wpAny_newObj_type ?_
  exact slice_strN_ss (s := { s with heap := h3, toks := t3 }) F3 N3 (fun h' t' kk F' N' => c _ l3 G3 h' kk (hk t') F' N') (hs x t _) (hg x t) hsz
theorem W_slice_sn {lo : Expr} {p : Pos} (h : W v (eval value env) l G fun o l1 G1 => W v (eval lo env) l1 G1 fun a l3 G3 => ∃ x t i ui, o = .str x t ∧ a = .int i ui ∧ x.length ≤ sizeLine ∧ ∀ t', k (.str (Txt.slice x (some i) none) t') l3 G3)
    (hs : ∀ x t D, subscripted (.Slice (some lo) none none p) false (.str x t) (.ref D) = operate [.ref D, .str x t] (getItem (.str x t) (.ref D))) (hg : ∀ x t r, letTemporaryGo value (.str x t) r = pure ()) :
    W v (eval (.Subscript value (.Slice (some lo) none none p) pos) env) l G k := fun s Q E F N c => by
  refine Subscript_ (h s _ E F N fun o l1 G1 h1 t1 x1 F1 N1 => ?_)
  show wpAny _ _ (do
    let l ← eval lo env
    let u ← holding [l] (valueOrNone none)
    let s ← holding [l, u] (valueOrNone none)
    newFields "slice" [l, u, s]) _ _ _
  refine wpAny_bind (x1 { s with heap := h1, toks := t1 } _ E F1 N1 fun a l2 G2 h2 t2 x2 F2 N2 => wpAny_bind (wpAny_holding (wpAny_pure (wpAny_bind (wpAny_holding (wpAny_pure ?_))))))
  obtain ⟨x, t, i, ui, rfl, rfl, hsz, hk⟩ := x2
  refine wpAny_newObj_type ?_
  exact slice_strN_sn (s := { s with heap := h2, toks := t2 }) F2 N2 (fun h' t' kk F' N' => c _ l2 G2 h' kk (hk t') F' N') (hs x t _) (hg x t) hsz
theorem W_slice_ns {hi : Expr} {p : Pos} (h : W v (eval value env) l G fun o l1 G1 => W v (eval hi env) l1 G1 fun a l3 G3 => ∃ x t i ui, o = .str x t ∧ a = .int i ui ∧ x.length ≤ sizeLine ∧ ∀ t', k (.str (Txt.slice x none (some i)) t') l3 G3)
    (hs : ∀ x t D, subscripted (.Slice none (some hi) none p) false (.str x t) (.ref D) = operate [.ref D, .str x t] (getItem (.str x t) (.ref D))) (hg : ∀ x t r, letTemporaryGo value (.str x t) r = pure ()) :
    W v (eval (.Subscript value (.Slice none (some hi) none p) pos) env) l G k := fun s Q E F N c => by
  refine Subscript_ (h s _ E F N fun o l1 G1 h1 t1 x1 F1 N1 => ?_)
  show wpAny _ _ (do
    let l ← valueOrNone none
    let u ← holding [l] (eval hi env)
    let s ← holding [l, u] (valueOrNone none)
    newFields "slice" [l, u, s]) _ _ _
  refine wpAny_bind (wpAny_pure (wpAny_bind (wpAny_holding (x1 { s with heap := h1, toks := t1 } _ E F1 N1 fun a l2 G2 h2 t2 x2 F2 N2 => wpAny_bind (wpAny_holding (wpAny_pure ?_))))))
  obtain ⟨x, t, i, ui, rfl, rfl, hsz, hk⟩ := x2
  refine wpAny_newObj_type ?_
  exact slice_strN_ns (s := { s with heap := h2, toks := t2 }) F2 N2 (fun h' t' kk F' N' => c _ l2 G2 h' kk (hk t') F' N') (hs x t _) (hg x t) hsz
-- chains
theorem W_isTrue_chain {e : Expr} {op₁ op₂ : CmpOp} {ops : List CmpOp} {r₁ r₂ : Expr} {rs : List Expr} {whole : Sem Value} (h : W v (eval e env) l G fun a l1 G1 => W v (testChain pos a (op₁ :: op₂ :: ops) (eval r₁ env :: eval r₂ env :: evalEach rs env)) l1 G1 kb)
    (hm : lastMarks (op₁ :: op₂ :: ops) (r₁ :: r₂ :: rs) = false) : W v (isTrue (.Compare e (op₁ :: op₂ :: ops) (r₁ :: r₂ :: rs) pos) env whole) l G kb := fun s Q E F N c =>
  isTrue_chain (h s _ E F N fun a l1 G1 h1 t1 x F1 N1 => x { s with heap := h1, toks := t1 } Q E F1 N1 c) hm
theorem W_test_link {a : Value} {op op' : CmpOp} {ops : List CmpOp} {r r' : Sem Value} {rs : List (Sem Value)}
    (h : W v r l G fun b l1 G1 => W v (compareOp op a b) l1 G1 fun c l2 G2 => W v (truthy c) l2 G2 fun t l3 G3 => if t then W v (testChain pos b (op' :: ops) (r' :: rs)) l3 G3 kb else kb false l3 G3) : W v (testChain pos a (op :: op' :: ops) (r :: r' :: rs)) l G kb := fun s Q E F N c =>
  test_link (h s _ E F N fun a l1 G1 h1 t1 x F1 N1 => x { s with heap := h1, toks := t1 } _ E F1 N1 fun b l2 G2 h2 t2 y F2 N2 => y { s with heap := h2, toks := t2 } _ E F2 N2 fun b l3 G3 h3 t3 z F3 N3 => by
    cases b with
    | true => exact z { s with heap := h3, toks := t3 } Q E F3 N3 c
    | false => exact c _ _ _ _ _ z F3 N3)
-- builtins of strings and numbers
theorem W_len_str (hsz : x.length < 2 ^ 62) (h : ∀ t, k (.int x.length t) l G) : W v (call (.builtin "len") [.str x t]) l G k := fun s Q E F N c => len_str (by omega) (c _ l G s.heap _ (h _) F N)
theorem W_len_list {a : Addr} {vs : List Value} (T : IL G a vs) (hsz : vs.length < 2 ^ 62) (h : ∀ t, k (.int vs.length t) l G) : W v (call (.builtin "len") [.ref a]) l G k := fun s Q E F N c =>
  call_len_list (T.list N) (by simp; omega) (by simpa using c _ l G s.heap _ (h _) F N)
theorem W_ord (hx : x.length = 1) (h : ∀ t, k (.int (x.cps.getD 0 0 : Nat) t) l G) : W v (call (.builtin "ord") [.str x t]) l G k := fun s Q E F N c => ord_of_one hx (c _ l G s.heap _ (h _) F N)
theorem W_abs (h : ∀ t, k (.int (if i < 0 then -i else i) t) l G) : W v (call (.builtin "abs") [.int i u]) l G k := fun s Q E F N c => call_abs_int fun t tk => c _ l G s.heap tk (h t) F N
theorem W_str_int (hi : i.natAbs.log2 < 1920) (h : ∀ t, k (.str (toString i) t) l G) : W v (call (.type "str") [.int i u]) l G k := fun s Q E F N c => PySem.P.str_of_int hi (c _ l G s.heap _ (h _) F N)
theorem W_mod (hj : j ≠ 0) (h : ∀ t, k (.int (Int.fmod i j) t) l G) : W v (binaryOp .Mod (.int i t) (.int j u)) l G k := fun s Q E F N c => mod_int' hj (c _ l G s.heap _ (h _) F N)
theorem W_fdiv (hj : j ≠ 0) (hp : Builtin.divisionGoesByPylong i j = false) (h : ∀ t, k (.int (Int.fdiv i j) t) l G) : W v (binaryOp .FloorDiv (.int i t) (.int j u)) l G k := fun s Q E F N c => floordiv_int hj (c _ l G s.heap _ (h _) F N) (.inl hp)
variable {pl : Sem Bool} {km : Value × List Value → Locs → Led → Prop}
theorem W_m_isalnum (h : km (.builtin "str.isalnum", [.str x t]) l G) : W v (getMethod (.str x t) "isalnum" pl) l G km := fun s Q E F N c => GM.isalnum (c _ l G s.heap s.toks h F N)
theorem W_m_isdigit (h : km (.builtin "str.isdigit", [.str x t]) l G) : W v (getMethod (.str x t) "isdigit" pl) l G km := fun s Q E F N c => GM.isdigit (c _ l G s.heap s.toks h F N)
theorem W_m_join (h : km (.builtin "str.join", [.str x t]) l G) : W v (getMethod (.str x t) "join" pl) l G km := fun s Q E F N c => GM.join (c _ l G s.heap s.toks h F N)
theorem W_m_append {a : Addr} {vs : List Value} (T : PL G a vs) (h : km (.builtin "list.append", [.ref a]) l G) : W v (getMethod (.ref a) "append" pl) l G km := fun s Q E F N c => by
  obtain ⟨n, m⟩ := T
  exact Calls.getMethod_list_append (N _ m).1 rfl rfl (c _ l G s.heap s.toks h F N)
theorem W_isalnum (h : k (.bool (Txt.isalnum x)) l G) : W v (call (.builtin "str.isalnum") [.str x t]) l G k := fun s Q E F N c => SC.isalnum (c _ l G s.heap s.toks h F N)
theorem W_isdigit (h : k (.bool (Txt.isdigit x)) l G) : W v (call (.builtin "str.isdigit") [.str x t]) l G k := fun s Q E F N c => SC.isdigit (c _ l G s.heap s.toks h F N)
inductive StrsV : List Value → List Str → Prop
  | nil : StrsV [] []
  | cons {x t vs xs} : StrsV vs xs → StrsV (.str x t :: vs) (x :: xs)
theorem StrsV.snoc : ∀ {vs : List Value} {xs : List Str} {x : Str} {t : Tok}, StrsV vs xs → StrsV (vs ++ [.str x t]) (xs ++ [x])
  | _, _, _, _, .nil => .cons .nil
  | _, _, _, _, .cons r => .cons r.snoc
theorem StrsV.vals : ∀ {vs : List Value} {xs : List Str}, StrsV vs xs → ∃ l : List (Str × Tok), vs = strValues l ∧ l.map (·.1) = xs
  | _, _, .nil => ⟨[], rfl, rfl⟩
  | _, _, .cons (x := x) (t := t) r => let ⟨l, e, e'⟩ := r.vals; ⟨(x, t) :: l, by rw [e]; rfl, by rw [List.map_cons, e']⟩
theorem W_join {a : Addr} {vs : List Value} {xs : List Str} (T : IL G a vs) (S : StrsV vs xs) (hok : (xs.map (·.length)).sum + xs.length * x.length ≤ 16777216) (h : ∀ t, k (.str (Txt.join x xs) t) l G) : W v (call (.builtin "str.join") [.str x t, .ref a]) l G k := fun s Q E F N c => by
  obtain ⟨ls, rfl, e⟩ := S.vals
  exact SC.join (T.list N) e (joinOk_of hok) fun t' tk => c _ l G s.heap tk (h t') F N
-- strings in tuples and lists
theorem any_strs : ∀ {vs : List Value} {xs : List Str}, StrsV vs xs → ∀ (y : Str), (vs.any fun u => match u with | .str z _ => z == y | _ => false) = xs.any (· == y)
  | _, _, .nil, _ => rfl
  | _, _, .cons r, y => by rw [List.any_cons, List.any_cons, any_strs r y]
theorem mem_strs : ∀ {vs : List Value} {xs : List Str}, StrsV vs xs → ∀ u ∈ vs, ∃ z t, u = .str z t
  | _, _, .nil, _, h => nomatch h
  | _, _, .cons r, u, h => by
    rcases List.mem_cons.mp h with rfl | h
    · exact ⟨_, _, rfl⟩
    · exact mem_strs r u h
theorem W_in_tuple {a : Addr} {vs : List Value} {xs : List Str} (T : TL G a vs) (S : StrsV vs xs) (h : k (.bool (xs.any (· == y))) l G) : W v (compareOp .In (.str y u) (.ref a)) l G k := fun s Q E F N c => by
  obtain ⟨oa, ma, ca, na, da⟩ := T
  refine PySem.SeqAt.in_tupleAt (fun u => match u with | .str z _ => z == y | _ => false) (items := vs.toArray) ⟨oa, (N _ ma).1, ca, na, da⟩ (fun z hz => ?_) ?_
  · obtain ⟨z', t', rfl⟩ := mem_strs S z (by simpa using hz)
    exact PySem.SeqAt.EqAt.str_str _ _ _ _
  · rw [List.any_toArray, any_strs S]; exact c _ l G s.heap s.toks h F N
theorem W_in_K {a : Addr} {vs : List Value} {xs : List Str} {oa : Obj} {na : Nat} (hv : Ok v nm sc d) (hk : (K v.w.params).lookup a = some oa) (hc : oa.cls = .type "tuple") (hd : oa.data = .seq vs.toArray na) (S : StrsV vs xs) (h : k (.bool (xs.any (· == y))) l G) : W v (compareOp .In (.str y u) (.ref a)) l G k := fun s Q E F N c => by
  refine PySem.SeqAt.in_tupleAt (fun u => match u with | .str z _ => z == y | _ => false) (items := vs.toArray) ⟨oa, F.keep _ _ (hv.X _ _ hk), hc, na, hd⟩ (fun z hz => ?_) ?_
  · obtain ⟨z', t', rfl⟩ := mem_strs S z (by simpa using hz)
    exact PySem.SeqAt.EqAt.str_str _ _ _ _
  · rw [List.any_toArray, any_strs S]; exact c _ l G s.heap s.toks h F N
theorem W_notin_K {a : Addr} {vs : List Value} {xs : List Str} {oa : Obj} {na : Nat} (hv : Ok v nm sc d) (hk : (K v.w.params).lookup a = some oa) (hc : oa.cls = .type "tuple") (hd : oa.data = .seq vs.toArray na) (S : StrsV vs xs) (h : k (.bool (!xs.any (· == y))) l G) : W v (compareOp .NotIn (.str y u) (.ref a)) l G k := fun s Q E F N c => by
  refine PySem.SeqAt.notIn_tupleAt (fun u => match u with | .str z _ => z == y | _ => false) (items := vs.toArray) ⟨oa, F.keep _ _ (hv.X _ _ hk), hc, na, hd⟩ (fun z hz => ?_) ?_
  · obtain ⟨z', t', rfl⟩ := mem_strs S z (by simpa using hz)
    exact PySem.SeqAt.EqAt.str_str _ _ _ _
  · rw [List.any_toArray, any_strs S]; exact c _ l G s.heap s.toks h F N
theorem W_notin_list {a : Addr} {vs : List Value} {xs : List Str} (T : IL G a vs) (S : StrsV vs xs) (h : k (.bool (!xs.any (· == y))) l G) : W v (compareOp .NotIn (.str y u) (.ref a)) l G k := fun s Q E F N c => by
  obtain ⟨oa, ma, ca, na, da⟩ := T
  refine PySem.SeqAt.notIn_listAt (fun u => match u with | .str z _ => z == y | _ => false) (items := vs.toArray) ⟨oa, (N _ ma).1, ca, na, da⟩ (fun z hz => ?_) ?_
  · obtain ⟨z', t', rfl⟩ := mem_strs S z (by simpa using hz)
    exact PySem.SeqAt.EqAt.str_str _ _ _ _
  · rw [List.any_toArray, any_strs S]; exact c _ l G s.heap s.toks h F N
theorem W_in_str (h : k (.bool (!(Builtin.Str.occurrences x y 0 x.length 1).isEmpty)) l G) : W v (compareOp .In (.str y u) (.str x t)) l G k := fun s Q E F N c => PyProof.Rows.in_str (c _ l G s.heap s.toks h F N)
end

/-- a dict of texts in the ledger -/
def SD (w : World) (G : Led) (d : Addr) (kvs : List (Str × Value)) : Prop := ∃ o, (d, o) ∈ G ∧ o.IsDictOf (PySem.strKind pw w) kvs ∧ (d == sysModules) = false
theorem SD.sub {w : World} {G G' : Led} {d : Addr} {kvs : List (Str × Value)} (T : SD w G d kvs) (s : Sub G G') : SD w G' d kvs := let ⟨o, m, r⟩ := T; ⟨o, s _ m, r⟩
theorem SD.but {w : World} {G G' : Led} {d a : Addr} {kvs : List (Str × Value)} (T : SD w G d kvs) (s : But a G G') (ne : d ≠ a) : SD w G' d kvs := let ⟨o, m, r⟩ := T; ⟨o, s _ m ne, r⟩
/-- a dict of texts, in the ledger or written -/
def DD (w : World) (v : V) (G : Led) (d : Addr) (kvs : List (Str × Value)) : Prop := (d == sysModules) = false ∧ ∀ h : Heap, News v.h₀ v.L h G → (∀ b o, v.h₀.get? b = some o → h.get? b = some o) → h.DictOf (PySem.strKind pw w) d kvs
theorem SD.dd {w : World} {v : V} {G : Led} {d : Addr} {kvs : List (Str × Value)} (T : SD w G d kvs) : DD w v G d kvs := let ⟨o, m, hd, lo⟩ := T; ⟨lo, fun h N _ => Heap.dictOf_iff.mpr ⟨o, (N _ m).1, hd⟩⟩
theorem kdict_is (w : World) : ∀ (rows : List DRow) (n : Nat), (rows.map (·.1)).Nodup → (kdict w.params (.type "dict") none rows n #[]).IsDictOf (PySem.strKind pw w) (rows.map fun r => (r.1, r.2.2)) := by
  intro rows n hn
  refine ⟨_, n, ⟨rfl, rfl, rfl⟩, rfl, ?_, ?_, ?_⟩
  · intro e he
    obtain ⟨r, _, rfl⟩ := List.mem_map.mp (List.mem_toArray.mp he)
    exact ⟨r.1, strKind_is pw w r.1 r.2.1, rfl⟩
  · show Pairs (PySem.strKind pw w) (rows.map fun r => (⟨PyData.keyHash w.params r.1, .str r.1 r.2.1, r.2.2⟩ : DictEntry)) (rows.map fun r => (r.1, r.2.2))
    clear hn
    induction rows with
    | nil => exact .nil
    | cons r rs ih => exact .cons (strKind_is pw w r.1 r.2.1) rfl ih
  · rw [List.map_map]; exact hn
theorem kdd {w : World} {v : V} {nm : Str} {sc : Scope} {k : Nat} {G : Led} {d : Addr} {rows : List DRow} {n : Nat} (hv : Ok v nm sc k) (hw : v.w = w) (hk : (K w.params).lookup d = some (kdict w.params (.type "dict") none rows n #[])) (lo : (d == sysModules) = false) (hn : (rows.map (·.1)).Nodup) : DD w v G d (rows.map fun r => (r.1, r.2.2)) :=
  ⟨lo, fun h N keep => Heap.dictOf_iff.mpr ⟨_, keep _ _ (hv.X _ _ (by rw [hw]; exact hk)), kdict_is w rows n hn⟩⟩
section
variable {w : World} {v : V} {l : Locs} {G : Led} {nm : Str} {sc : Scope} {d : Nat} {k : Value → Locs → Led → Prop} {kb : Bool → Locs → Led → Prop} {pos : Pos} {env : Env} {D : Addr} {kvs : List (Str × Value)} {x y : Str} {t u : Tok}
theorem W_Dict0 (hv : Ok v nm sc d) (h : ∀ a o, (∀ p ∈ G, p.1 < a) → SD v.w ((a, o) :: G) a [] → (∃ es n, o = dictOf es n ∧ Fl es []) → k (.ref a) l ((a, o) :: G)) : W v (eval (.Dict [] [] pos) env) l G k := fun s Q E F N c => by
  refine wpAny_Dict_empty ?_
  obtain ⟨F', N'⟩ := new_at F N { cls := .type "dict", data := .dict #[] }
  obtain ⟨_, _, _, _, T⟩ := hv.T
  refine c _ l _ _ s.toks (h _ _ (fun p hp => Heap.lt_size (N p hp).1) ⟨_, .head _, ?_, F.notModules (modules_low T.nolimit)⟩ ⟨[], 0, rfl, .nil⟩) F' N'
  obtain ⟨o, ho, hd⟩ := Heap.dictOf_iff.mp (Heap.DictOf.new (knd := PySem.strKind pw v.w) s.heap)
  rw [Heap.get?_push_size _ rfl] at ho
  cases ho; exact hd
theorem W_m_dget {pl : Sem Bool} {km : Value × List Value → Locs → Led → Prop} (T : DD w v G D kvs) (h : km (.builtin "dict.get", [.ref D]) l G) : W v (getMethod (.ref D) "get" pl) l G km := fun s Q E F N c => by
  have hD := T.2 _ N F.keep
  exact getMethod_builtin hD.typeIs PySem.F.plainAttrs_dict PySem.F.slot_dict_get PySem.F.type_dict_get hD.mapOf.noDict (c _ l G s.heap s.toks h F N)
theorem W_dget (hw : v.w = w) (T : DD w v G D kvs) (h : k ((valueAt kvs x).getD .none) l G) : W v (call (.builtin "dict.get") [.ref D, .str x t]) l G k := fun s Q E F N c => by
  have hD := T.2 _ N F.keep
  subst hw
  exact call_meetsIn PySem.F.slot_dict_get hD.typeIs PySem.F.entry_dict_get (PySem.F.args_dict_get_2 _ _) (meets_dict_get _ D (strKind_is _ _ x t) T.1) ⟨_, hD.mapOf, c _ l G s.heap _ h F N⟩
theorem W_dget2 {dflt : Value} (hw : v.w = w) (T : DD w v G D kvs) (h : k ((valueAt kvs x).getD dflt) l G) : W v (call (.builtin "dict.get") [.ref D, .str x t, dflt]) l G k := fun s Q E F N c => by
  have hD := T.2 _ N F.keep
  subst hw
  exact call_meetsIn PySem.F.slot_dict_get hD.typeIs PySem.F.entry_dict_get (PySem.F.args_dict_get_3 _ _ _) (meets_dict_get_default _ D (strKind_is _ _ x t) T.1 dflt) ⟨_, hD.mapOf, c _ l G s.heap _ h F N⟩
theorem W_din (hw : v.w = w) (T : DD w v G D kvs) (h : k (.bool (valueAt kvs x).isSome) l G) : W v (compareOp .In (.str x t) (.ref D)) l G k := fun s Q E F N c => by
  subst hw
  exact wpAny_in_of (strKind_is _ _ x t) T.1 (T.2 _ N F.keep).mapOf (c _ l G s.heap _ h F N)
theorem W_ditem {value slice : Expr} {u : Value} (hw : v.w = w) (T : DD w v G D kvs) (hl : valueAt kvs x = some u) (h : k u l G)
    (hs : subscripted slice false (.ref D) (.str x t) = operate [.ref D, .str x t] (getItem (.ref D) (.str x t))) (hg : ∀ r, letTemporaryGo value (.ref D) r = pure ()) : W v (subscriptTail value slice (.ref D) (.str x t)) l G k := fun s Q E F N c => by
  subst hw
  have hD := T.2 _ N F.keep
  exact subscriptTail_builtin hD.typeIs slot_dict_getitem.lookup (wpAny_getItem_of (strKind_is _ _ x t) hD.mapOf hl (c _ l G s.heap _ h F N)) hs hg
theorem W_dset {u : Value} {ku : Unit → Locs → Led → Prop} (hw : v.w = w) (T : SD w G D kvs) (hsz : kvs.length ≤ sizeLine) (h : ∀ G', But D G G' → SD w G' D (stored kvs x u) → ku () l G') : W v (setItem (.ref D) (.str x t) u) l G ku := fun s Q E F N c => by
  subst hw
  obtain ⟨o, m, hd, lo⟩ := T
  refine wpAny_setItem_pairs (hsz := hsz) (strKind_is _ _ x t) (Heap.dictOf_iff.mpr ⟨o, (N _ m).1, hd⟩) fun h' hmm hs => ?_
  obtain ⟨o', ho', hd'⟩ := Heap.dictOf_iff.mp hmm
  obtain ⟨F', _⟩ := fr_but F N ⟨_, m⟩ fun b o ne e => (hs.2 b ne).trans e
  exact c () l _ h' _ (h (upd G D o') upd_but ⟨o', upd_at, hd', lo⟩) F' (news_put N m hs ho')
theorem W_listD (hv : Ok v nm sc d) (hw : v.w = w) (T : SD w G D kvs) (hn : kvs.length ≤ 16777216) (h : ∀ B o vs, (∀ p ∈ G, p.1 < B) → PL ((B, o) :: G) B vs → StrsV vs (kvs.map (·.1)) → k (.ref B) l ((B, o) :: G)) : W v (call (.type "list") [.ref D]) l G k := fun s Q E F N c => by
  subst hw
  obtain ⟨o, m, hd, lo⟩ := T
  refine kdl_list_keysS hv.hh F N m hd lo hn fun B c' h' tk => ?_
  have gen : ∀ (kvs : List (Str × Value)) (P : List Value → Prop), (∀ vs, StrsV vs (kvs.map (·.1)) → P vs) → KdlKeysS kvs P := by
    intro kvs
    induction kvs with
    | nil => exact fun P hp => hp [] .nil
    | cons q r ih => exact fun P hp t => ih _ fun vs hs => hp _ (.cons hs)
  refine gen kvs _ fun vs hs F' N' lt => ?_
  exact c _ l _ h' tk (h B _ vs lt ⟨_, .head _⟩ hs) F' N'
-- a display of written texts
def litS : List (Option Expr) → List Expr → Option (List (Str × Str))
  | [], [] => some []
  | some (.Constant (.str x) _ _) :: ks, .Constant (.str y) _ _ :: vs => (litS ks vs).map ((x, y) :: ·)
  | _, _ => none
def ofS (v : V) (G : Led) : List (Str × Str) → List (Str × Value) → Prop
  | [], [] => True
  | (x, y) :: r, (x', u) :: r' => x' = x ∧ (∃ t, u = .str y t) ∧ ofS v G r r'
  | _, _ => False
theorem litS_walk {E : Value → Shared → Prop} {A : Around} {w : World} (ks : List (Option Expr)) (vs : List Expr) (D : List (Str × Str)) (hl : litS ks vs = some D) (s : Shared) (Q : List (Value × Value) → Shared → Prop)
    (hq : ∀ ps tk, allStrKeys ps = true → ofS v G D (strPairs ps) → Q ps { s with toks := tk }) : wpAny (model pw w) A (evalPairs (pairTrees ks vs env pos)) Q E s := by
  fun_induction litS ks vs generalizing D s Q with
  | case1 => cases hl; exact evalPairs_nil (hq [] s.toks rfl trivial)
  | case2 x a b ks y a' b' vs ih =>
    obtain ⟨D', h', rfl⟩ := Option.map_eq_some_iff.mp hl
    refine evalPairs_cons (Constant_str (wpAny_bind (Constant_str (wpAny_bind (wpAny_standAt (wpAny_pure (ih D' h' _ _ fun ps tk hk ho => ?_)))))))
    exact hq _ tk hk ⟨rfl, ⟨_, rfl⟩, ho⟩
  | case3 => cases hl
theorem ofS_keys : ∀ {D : List (Str × Str)} {r : List (Str × Value)}, ofS v G D r → r.map (·.1) = D.map (·.1)
  | [], [], _ => rfl
  | (x, y) :: D, (x', u) :: r, h => by
    obtain ⟨e, _, h⟩ := h
    rw [List.map_cons, List.map_cons, ofS_keys h, e]
  | [], _ :: _, h => nomatch h
  | _ :: _, [], h => nomatch h
theorem W_DictS {ks : List (Option Expr)} {vs : List Expr} {L : List (Str × Str)} (hv : Ok v nm sc d) (hl : litS ks vs = some L) (hall : ks.all (·.isSome) = true) (hlen : ks.length = vs.length) (h0 : ks ≠ []) (h15 : ks.length ≤ 15) (hn : (L.map (·.1)).Nodup)
    (h : ∀ a o kvs, (∀ p ∈ G, p.1 < a) → ofS v G L kvs → SD v.w ((a, o) :: G) a kvs → k (.ref a) l ((a, o) :: G)) : W v (eval (.Dict ks vs pos) env) l G k := fun s Q E F N c => by
  obtain ⟨_, _, _, _, T⟩ := hv.T
  refine Dict_made (knd := PySem.strKind pw v.w) F hall hlen h0 h15 fun F' => litS_walk (v := v) (G := G) ks vs L hl _ _ fun ps tk hk ho => ?_
  have hn' : ((strPairs ps).map (·.1)).Nodup := by rw [ofS_keys ho]; exact hn
  refine made_str F N hk hn' (fun h' o F' N' hd => ?_)
  exact c _ l _ h' _ (h _ o _ (fun p hp => Heap.lt_size (N p hp).1) ho ⟨o, .head _, hd, F.notModules (modules_low T.nolimit)⟩) F' N'
end

theorem itNot {b : Bool} {P Q : Prop} (h : if b = true then Q else P) : if (!b) = true then P else Q := by cases b <;> exact h
theorem Sub.butI {G₀ G G' : Led} {I : Addr} (s : Sub G₀ G) (b : But I G G') (lt : ∀ p ∈ G₀, p.1 < I) : Sub G₀ G' := fun p m => b p (s p m) (Nat.ne_of_lt (lt p m))
abbrev UnK (v : V) (op : UnaryOp) (k : Vk) : Vk := fun a l G => W v (unaryOp op a) l G k
section
variable {v : V} {l : Locs} {G : Led} {nm : Str} {sc : Scope} {d : Nat} {k : Value → Locs → Led → Prop} {pos : Pos} {env : Env}
theorem it_I {b : Bool} {P Q : Prop} (h : if b = true then P else Q) : if b = true then P else Q := h
theorem W_eI {e : Expr} (h : W v (eval e env) l G k) : W v (eval e env) l G k := h
theorem W_xI {e : List Stmt} {k : Flow → Locs → Led → Prop} (h : W v (execs e env) l G k) : W v (execs e env) l G k := h
theorem W_tI {e : Expr} {w : Sem Value} {k : Bool → Locs → Led → Prop} (h : W v (isTrue e env w) l G k) : W v (isTrue e env w) l G k := h
theorem W_cI {f : Value} {a : List Value} {b : List (Bool × Sem Value)} {c : List (Option Str × Sem Value)} (h : W v (callWith pos f a b c) l G k) : W v (callWith pos f a b c) l G k := h
theorem W_kI {f : Value} {a : List Value} (h : W v (call f a) l G k) : W v (call f a) l G k := h
theorem W_oI {o : CmpOp} {a b : Value} (h : W v (compareOp o a b) l G k) : W v (compareOp o a b) l G k := h
theorem W_bI {o : Operator} {a b : Value} (h : W v (binaryOp o a b) l G k) : W v (binaryOp o a b) l G k := h
theorem W_mI {o : Value} {n : Str} {p : Sem Bool} {k : Value × List Value → Locs → Led → Prop} (h : W v (getMethod o n p) l G k) : W v (getMethod o n p) l G k := h
theorem C_post {t : Code} (h : C v t l G fun a l' G' => ∃ G2, Sub G2 G' ∧ k a l' G2) : C v t l G k := fun s R F N c => h s R F N fun a l' G' h' tk' ⟨G2, sb, x⟩ F' N' => c a l' G2 h' tk' x F' (fun p hp => N' p (sb p hp))
theorem W_post {α : Type} {t : Sem α} {k : α → Locs → Led → Prop} (h : W v t l G fun a l' G' => ∃ G2, Sub G2 G' ∧ k a l' G2) : W v t l G k := fun s Q E F N c => h s Q E F N fun a l' G' h' tk' ⟨G2, sb, x⟩ F' N' => c a l' G2 h' tk' x F' (fun p hp => N' p (sb p hp))
theorem C_fnP {f : Addr} {name qual : Str} {params : Arguments} {body : List Stmt} {scope : Scope} {dV kV doc pm cdv ct oc : Value} {an od : Option Addr} {osl : Array (Option Value)} {args : PySem.Args}
    (hv : Ok v nm sc (d + 1)) (ho : (K v.w.params).lookup f = some ⟨oc, od, .func (fnOf name qual params body scope dV kV doc pm an cdv ct), osl⟩) (hcd : codeIn (K v.w.params) cdv qual = true) (L : Locs)
    (hb : ∀ S, peek (K v.w.params) S (bindArgs (fnOf name qual params body scope dV kV doc pm an cdv ct) args) = some L.reverse) (hs : scopeOk scope (L.map (·.1)) = true)
    (h : ∀ v', Ok v' qual scope d → v'.w = v.w → W v' (execs body (v'.env qual scope)) L G fun fl _ G' => ∃ G2, Sub G2 G' ∧ k (retV fl) l G2) : C v (.call (.ref f) args) l G k :=
  C_post (C_fn hv ho hcd hb (by
    unfold scopeOk at hs ⊢
    rw [List.map_reverse, List.all_reverse]; exact hs) (by rw [List.reverse_reverse]; exact h))
theorem C_fnC' {c : Str} {f : Addr} {name qual : Str} {params : Arguments} {body : List Stmt} {scope : Scope} {dV kV doc pm cdv ct oc : Value} {an od : Option Addr} {osl : Array (Option Value)} {args : PySem.Args} {binds : List (Str × Value)}
    (hv : Ok v nm sc (d + 1)) (ho : (K v.w.params).lookup f = some ⟨oc, od, .func (fnOf name qual params body scope dV kV doc pm an cdv ct), osl⟩) (hcd : codeIn (K v.w.params) cdv qual = true)
    (hb : ∀ S, peek (K v.w.params) S (bindArgs (fnOf name qual params body scope dV kV doc pm an cdv ct) args) = some binds) (hs : scopeOkC scope c (binds.map (·.1)) = true) (L : Locs) (u : Option Value) (hL : bindLs c binds [] = L) (hu : bindCs c binds none = u)
    (h : ∀ v' cA o, Ok v' qual scope d → v'.w = v.w → v'.cl = [(c, cA)] → o.data = .cell u → (∀ p ∈ G, p.1 < cA) → W v' (execs body (v'.env qual scope)) L ((cA, o) :: G) fun fl _ G' => ∃ G2, Sub G2 G' ∧ k (retV fl) l G2) : C v (.call (.ref f) args) l G k := by
  subst hL hu
  exact C_post (C_fnC hv ho hcd hb hs h)
theorem W_UnaryOp {op : UnaryOp} {e : Expr} (h : W v (eval e env) l G (UnK v op k)) : W v (eval (.UnaryOp op e pos) env) l G k :=
  fun s Q E F N c => wpAny_UnaryOp (h s _ E F N fun a l1 G1 h1 t1 x F1 N1 => x { s with heap := h1, toks := t1 } Q E F1 N1 c)
theorem W_neg {i : Int} {t : Tok} (h : ∀ t, k (.int (-i) t) l G) : W v (unaryOp .USub (.int i t)) l G k := fun s Q E F N c => PyProof.Rows.neg_int (c _ l G s.heap _ (h _) F N)
end

theorem lookA_hd {x : Str} {u : Addr} {r : List (Str × Addr)} : List.lookup x ((x, u) :: r) = some u := by rw [List.lookup_cons]; simp
section
variable {v : V} {l : Locs} {G : Led} {nm : Str} {sc : Scope} {d : Nat} {k : Value → Locs → Led → Prop} {pos : Pos} {env : Env}
theorem CompTurns.plain {scope : Scope} {cl : List (Str × Addr)} {x : Str} {xp : Pos} {elt : Expr} {I : Addr} {fp : List Addr} {n : Nat} {P : Nat → Value → Prop} {C D : Addr} {Gb G2 G3 : Led} (J : Nat → List Value → Prop)
    (hI : ∀ p ∈ Gb, p.1 < I) (hs : Sub Gb G2) (s3 : Sub G2 G3) (lt : ∀ p ∈ G2, p.1 < D) (hfp : ∀ b ∈ fp, b < D) (hIm : ∃ o, (I, o) ∈ G2) (dc : D < C) (hk : scope.kind = .function) (hx : scope.names.lookup x = some .local) (j0 : J 0 [])
    (step : ∀ i acc lc a G, Sub Gb G → i < n → P i a → J i acc → NL G C ((x, a) :: lc) → W v (eval elt (compEnvC scope cl C (v.env nm sc))) l G fun y l4 G4 => l4 = l ∧ Sub G G4 ∧ J (i + 1) (acc ++ [y]))
    (done : ∀ acc, acc.length = n → J n acc → ∀ G', Sub Gb G' → PL G' D acc → k (.ref D) l G') : CompTurns v (v.env nm sc) scope cl (.Name x xp) elt l I fp n P C D G3 k := by
  have hIlt : I < D := let ⟨o, m⟩ := hIm; lt _ m
  have low : ∀ p ∈ Gb, p.1 < D := fun p hp => lt p (hs p hp)
  refine ⟨fun i acc G => Sub Gb G ∧ J i acc, ⟨hs.trans s3, j0⟩, fun i acc G G' h b => ⟨h.1.butI b hI, h.2⟩, ?_, ?_⟩
  · rintro i acc lc a G hi hP ⟨sb, hJ⟩ T NC PD
    refine W_asgName (W_cstore NC (fun G' b NC' => ?_) hk hx)
    have sb' : Sub Gb G' := sb.butI b fun p hp => Nat.lt_trans (low p hp) dc
    have T' := T.but b (Nat.ne_of_lt (Nat.lt_trans hIlt dc)) (fun hm => Nat.lt_asymm (hfp _ hm) dc)
    have PD' := PD.but b (Nat.ne_of_lt dc)
    refine W_mono (step i acc lc a G' sb' hi hP hJ NC') fun y l4 G4 h => ?_
    obtain ⟨e, s4, hj⟩ := h
    exact ⟨e, T'.sub s4, ⟨_, NC'.sub s4⟩, PD'.sub s4, fun G5 b5 _ => ⟨(sb'.trans s4).butI b5 low, hj⟩⟩
  · rintro acc G hl ⟨sb, hJ⟩ PD G' b PD'
    exact done acc hl hJ G' (sb.butI b fun p hp => Nat.lt_trans (low p hp) dc) PD'
end

/-- an object with (at least) these fields -/
def Has (G : Led) (x C : Addr) (req : Locs) : Prop := ∃ dx fs, IG G x C dx fs ∧ ∀ n u, req.lookup n = some u → fs.lookup n = some u
theorem Has.sub {G G' : Led} {x C : Addr} {req : Locs} (h : Has G x C req) (s : Sub G G') : Has G' x C req := let ⟨dx, fs, I, r⟩ := h; ⟨dx, fs, I.sub s, r⟩
theorem IG.has {G : Led} {x C dx : Addr} {fs req : Locs} (I : IG G x C dx fs) (h : ∀ n u, req.lookup n = some u → fs.lookup n = some u) : Has G x C req := ⟨dx, fs, I, h⟩
/-- a check that the fields are there -/
def reqB (req fs : Locs) : Prop := ∀ q ∈ req, fs.lookup q.1 = some q.2
theorem lookup_mem {n : Str} {u : Value} : ∀ {req : Locs}, req.lookup n = some u → (n, u) ∈ req
  | (x, w) :: r, h => by
    rw [List.lookup_cons] at h
    split at h
    · rename_i e
      have := eq_of_beq e
      subst this
      cases h; exact .head _
    · exact .tail _ (lookup_mem h)
theorem IG.hasB {G : Led} {x C dx : Addr} {fs req : Locs} (I : IG G x C dx fs) (h : reqB req fs) : Has G x C req := ⟨dx, fs, I, fun n u e => h _ (lookup_mem e)⟩
theorem reqB_nil {fs : Locs} : reqB [] fs := fun _ h => nomatch h
theorem reqB_cons {n : Str} {u : Value} {r fs : Locs} (h : fs.lookup n = some u) (t : reqB r fs) : reqB ((n, u) :: r) fs := fun q hq => by
  rcases List.mem_cons.mp hq with rfl | hq
  · exact h
  · exact t q hq
theorem Has.ty {G : Led} {x C : Addr} {req : Locs} (h : Has G x C req) : Ty G (.ref x) (.ref C) := let ⟨_, _, I, _⟩ := h; .inst I
section
variable {v : V} {l : Locs} {G : Led} {nm : Str} {sc : Scope} {d : Nat} {k : Value → Locs → Led → Prop} {pos : Pos} {env : Env}
theorem W_fieldH {x C : Addr} {req : Locs} {name : Str} {u : Value} {ex : Bool} (hv : Ok v nm sc d) (I : Has G x C req) (ok : fieldOk (K v.w.params) C name = true) (hl : req.lookup name = some u) (hh : handedIn u = true) (h : k u l G) :
    W v (getAttr (.ref x) name ex) l G k := let ⟨_, _, I, r⟩ := I; W_field hv I ok (r _ _ hl) hh h
/-- a piece that changes nothing that is told: its answer alone -/
theorem W_cut {α : Type} {t : Sem α} {k : α → Locs → Led → Prop} (k₂ : α → Prop) (h : W v t l G fun a l1 G1 => l1 = l ∧ Sub G G1 ∧ k₂ a) (h2 : ∀ a, k₂ a → k a l G) : W v t l G k :=
  W_post (W_mono h fun a l1 G1 ⟨e, s, x⟩ => ⟨G, s, e ▸ h2 a x⟩)
theorem W_gI {o : Value} {n : Str} {ex : Bool} (h : W v (getAttr o n ex) l G k) : W v (getAttr o n ex) l G k := h
theorem W_methodH {x C f : Addr} {req : Locs} {name : Str} {pl : Sem Bool} {k : Value × List Value → Locs → Led → Prop} (hv : Ok v nm sc d) (I : Has G x C req) (ok : methOk (K v.w.params) C name f = true) (hl : ∀ dx fs, IG G x C dx fs → fs.lookup name = none) (h : k (.ref f, [.ref x]) l G) :
    W v (getMethod (.ref x) name pl) l G k := let ⟨dx, fs, I, r⟩ := I; W_method hv I ok (hl dx fs I) h
end

-- the values of a dict, whatever its keys
def RawAt (h : Heap) (d : Addr) (vs : List Value) (ep : Nat) : Prop := ∃ o es, h.get? d = some o ∧ o.cls = .type "dict" ∧ o.data = .dict es ep ∧ es.toList.map (·.val) = vs
theorem RawAt.keep {h h' : Heap} {d : Addr} {vs : List Value} {ep : Nat} (x : RawAt h d vs ep) (e : ∀ o, h.get? d = some o → h'.get? d = some o) : RawAt h' d vs ep := let ⟨o, es, ho, r⟩ := x; ⟨o, es, e _ ho, r⟩
section
variable {w : World} {A : Around} {E : Value → Shared → Prop} {s : Shared} {d : Addr} {vs : List Value} {ep : Nat}
theorem RawAt.size {h : Heap} {es : Array DictEntry} (e : es.toList.map (·.val) = vs) : es.size = vs.length := by rw [← e, List.length_map, Array.length_toList]
theorem raw_call_values {Q : Value → Shared → Prop} (hd : (d == sysModules) = false) (hm : RawAt s.heap d vs ep) (h : Q (.ref s.heap.objs.size) { s with heap := s.heap.push { cls := .type "dict_values", data := .fields #[.ref d] } }) :
    wpAny (model pw w) A (call (.builtin "dict.values") [.ref d]) Q E s := by
  obtain ⟨o, es, ho, hc, _⟩ := hm
  refine wpAny_call_entry PySem.F.slot_dict_values ⟨o, ho, hc⟩ PySem.F.entry_dict_values ?_ (PySem.F.args_dict_values_1 _)
  refine wpAny_bind ?_
  unfold Builtin.Dict.noArgs
  refine wpAny_bind (wpAny_notOrdered_dict ⟨o, ho, hc⟩ (wpAny_pure ?_))
  show wpAny _ _ (Builtin.Dict.showsAll d >>= _) _ _ s
  unfold Builtin.Dict.showsAll
  rw [if_neg (by rw [hd]; exact Bool.false_ne_true)]
  exact wpAny_bind (wpAny_pure (wpAny_bind (wpAny_newObj_type (wpAny_pure ⟨_, rfl, h⟩))))
theorem raw_iter {v : Addr} {Q : Value → Shared → Prop} (hv : s.heap.IsValuesView v d) (hm : RawAt s.heap d vs ep)
    (h : Q (.ref s.heap.objs.size) { s with heap := s.heap.push { cls := .type "dict_valueiterator", data := .fields #[.ref d, .int 0 0, .int vs.length 0, .int ep 0] } }) : wpAny (model pw w) A (pyIter (.ref v)) Q E s := by
  obtain ⟨ov, hov, hcv, hdv⟩ := id hv
  obtain ⟨o, es, ho, hc, hdat, he⟩ := id hm
  refine wpAny_pyIter_slot hv.typeIs PySem.F.slot_dict_values_iter (wpAny_call_entry PySem.F.slot_dict_values_iter hv.typeIs PySem.F.entry_dict_values_iter ?_ (PySem.F.args_dict_values_iter_1 _))
  unfold Builtin.«dict_values.__iter__»
  refine wpAny_bind (wpAny_pure (wpAny_bind ?_))
  unfold Builtin.Dict_items.dictOf
  refine wpAny_bind (wpAny_field hov hdv (x := .ref d) rfl (wpAny_pure (wpAny_bind ?_)))
  unfold Builtin.Dict_items.newIterator
  refine wpAny_bind (wpAny_dictEntries ho hdat (wpAny_bind (wpAny_dictEpoch ho hdat ?_)))
  have hsz : es.size = vs.length := RawAt.size (h := s.heap) he
  have hown : Builtin.Dict_items.ownsTuple "dict_valueiterator" = false := by decide
  simp only [hown, Bool.false_eq_true, if_false]
  refine wpAny_newObj_type (wpAny_pure ⟨_, rfl, "dict_valueiterator", _, ⟨_, Heap.get?_push_size _ rfl, rfl⟩, PySem.F.slot_dict_valueiterator_next.lookup, ?_⟩)
  simpa [rawInt, hsz] using h
theorem raw_item {it : Addr} {i : Nat} {v : Value} {Q : Option Value → Shared → Prop} (hit : s.heap.IsValIter it d i vs.length ep) (hm : RawAt s.heap d vs ep) (hx : vs[i]? = some v)
    (hQ : ∀ h', h'.IsValIter it d (i + 1) vs.length ep → Heap.SameBut it s.heap h' → Q (some v) { s with heap := h' }) : wpAny (model pw w) A (pyNext (.ref it)) Q E s := by
  obtain ⟨o, ho, hc, hd⟩ := id hit
  obtain ⟨od, es, hod, hcd, hdd, he⟩ := id hm
  have hsz : es.size = vs.length := RawAt.size (h := s.heap) he
  unfold pyNext
  refine wpAny_bind (wpAny_attempt (wpAny_callSpecial?_slot (name := Str.ofString "__next__") hit.typeIs PySem.F.slot_dict_valueiterator_next
    (wpAny_call_entry PySem.F.slot_dict_valueiterator_next hit.typeIs PySem.F.entry_dict_valueiterator_next ?_ (PySem.F.args_dict_valueiterator_next_1 _))))
  refine wpAny_bind (wpAny_pure (wpAny_bind (wpAny_bind ?_)))
  first | refine wpAny_bind (wpAny_typeNameOfWhole_valiter hit.typeIs (wpAny_pure ?_)) | refine wpAny_bind (wpAny_typeNameOf_valiter hit.typeIs (wpAny_pure ?_))
  refine wpAny_bind (wpAny_fieldsOf ho hd ?_)
  have hown : Builtin.Dict_items.ownsTuple "dict_valueiterator" = false := by decide
  simp only [hown, Bool.false_eq_true, if_false]
  show wpAny _ _ (if (Value.ref d == Value.none) = true then _ else _) _ _ s
  rw [if_neg (show ¬ ((Value.ref d == Value.none) = true) from Bool.false_ne_true)]
  refine wpAny_bind (wpAny_pure (wpAny_bind (wpAny_dictEntries hod hdd ?_)))
  rw [if_neg (by rw [hsz]; simp)]
  refine wpAny_bind (wpAny_pure (wpAny_bind (wpAny_dictEpoch hod hdd ?_)))
  rw [if_neg (by simp)]
  refine wpAny_pure ?_
  have hlt : i < es.size := by
    rw [hsz]
    rcases Nat.lt_or_ge i vs.length with q | q
    · exact q
    · rw [List.getElem?_eq_none q] at hx; cases hx
  have hval : es[i].val = v := by
    rw [← he, List.getElem?_map, Array.getElem?_toList, Array.getElem?_eq_getElem hlt] at hx
    exact Option.some.inj hx
  simp only [show ¬ ((i : Int) < 0) from by omega, if_false, Int.toNat_natCast, Array.getElem?_eq_getElem hlt]
  refine wpAny_bind ?_
  first | refine wpAny_bind (wpAny_typeNameOfWhole_valiter hit.typeIs (wpAny_pure ?_)) | refine wpAny_bind (wpAny_typeNameOf_valiter hit.typeIs (wpAny_pure ?_))
  refine wpAny_bind (wpAny_isOneOf_valiter hit.typeIs ?_)
  show wpAny _ _ (setField (.ref it) 1 (rawInt ((i : Int) + 1)) >>= _) _ _ s
  refine wpAny_bind (wpAny_setField ho hd (by simp) ?_)
  have hit' : (s.heap.update it (Obj.mapFields (·.setIfInBounds 1 (rawInt ((i : Int) + 1))))).IsValIter it d (i + 1) vs.length ep :=
    ⟨_, Heap.get?_update_self _ ho (Obj.isFreed_of_fields (Obj.data_mapFields hd _)), (Obj.cls_mapFields ..).trans hc, by rw [Obj.data_mapFields hd]; simp [rawInt]⟩
  refine wpAny_bind (wpAny_holding ?_)
  refine wpAny_bind (wpAny_isOneOf_valiter (s := { s with heap := s.heap.update it (Obj.mapFields (·.setIfInBounds 1 (rawInt ((i : Int) + 1)))) }) hit'.typeIs ?_)
  refine wpAny_bind (wpAny_isOneOf_valiter (s := { s with heap := s.heap.update it (Obj.mapFields (·.setIfInBounds 1 (rawInt ((i : Int) + 1)))) }) hit'.typeIs ?_)
  show wpAny _ _ (pure es[i].val) _ _ _
  exact wpAny_pure (wpAny_pure ⟨_, rfl, wpAny_pure (hval ▸ hQ _ hit' (Heap.SameBut.update ..))⟩)
theorem raw_end {it : Addr} {i : Nat} {Q : Option Value → Shared → Prop} (hh : A.handled = none) (hit : s.heap.IsValIter it d i vs.length ep) (hm : RawAt s.heap d vs ep) (hx : vs.length ≤ i)
    (hQ : ∀ h', Heap.ExtBut it s.heap h' → Q none { s with heap := h' }) : wpAny (model pw w) A (pyNext (.ref it)) Q E s := by
  obtain ⟨o, ho, hc, hd⟩ := id hit
  obtain ⟨od, es, hod, hcd, hdd, he⟩ := id hm
  have hsz : es.size = vs.length := RawAt.size (h := s.heap) he
  unfold pyNext
  refine wpAny_bind (wpAny_attempt (wpAny_callSpecial?_slot (name := Str.ofString "__next__") hit.typeIs PySem.F.slot_dict_valueiterator_next
    (wpAny_call_entry PySem.F.slot_dict_valueiterator_next hit.typeIs PySem.F.entry_dict_valueiterator_next ?_ (PySem.F.args_dict_valueiterator_next_1 _))))
  refine wpAny_bind (wpAny_pure (wpAny_bind (wpAny_bind ?_)))
  first | refine wpAny_bind (wpAny_typeNameOfWhole_valiter hit.typeIs (wpAny_pure ?_)) | refine wpAny_bind (wpAny_typeNameOf_valiter hit.typeIs (wpAny_pure ?_))
  refine wpAny_bind (wpAny_fieldsOf ho hd ?_)
  have hown : Builtin.Dict_items.ownsTuple "dict_valueiterator" = false := by decide
  simp only [hown, Bool.false_eq_true, if_false]
  show wpAny _ _ (if (Value.ref d == Value.none) = true then _ else _) _ _ s
  rw [if_neg (show ¬ ((Value.ref d == Value.none) = true) from Bool.false_ne_true)]
  refine wpAny_bind (wpAny_pure (wpAny_bind (wpAny_dictEntries hod hdd ?_)))
  rw [if_neg (by rw [hsz]; simp)]
  refine wpAny_bind (wpAny_pure (wpAny_bind (wpAny_dictEpoch hod hdd ?_)))
  rw [if_neg (by simp)]
  refine wpAny_pure ?_
  have hge : es.size ≤ i := by rw [hsz]; exact hx
  simp only [show ¬ ((i : Int) < 0) from by omega, if_false, Int.toNat_natCast, Array.getElem?_eq_none hge]
  refine wpAny_bind ?_
  first | refine wpAny_bind (wpAny_typeNameOfWhole_valiter hit.typeIs (wpAny_pure ?_)) | refine wpAny_bind (wpAny_typeNameOf_valiter hit.typeIs (wpAny_pure ?_))
  show wpAny _ _ (setField (.ref it) 0 .none >>= _) _ _ s
  refine wpAny_bind (wpAny_setField ho hd (by simp) ?_)
  show wpAny _ _ (newExc (.type "StopIteration") [] >>= _) _ _ _
  refine wpAny_bind ?_
  simp only [newExc, newTuple]
  refine wpAny_bind (wpAny_newObj_type ?_ (by size_fits))
  refine wpAny_bind (m := firstArgMember _ _) (wpAny_of_eq (a := Value.none) (by first | rfl | (simp only [firstArgMember]; rfl)) ?_)
  refine wpAny_newObj_type ?_ (by size_fits)
  simp only [raiseNew]
  refine wpAny_bind (wpAny_handled ?_)
  rw [show A.in1.handled = none from hh]
  refine wpAny_bind (wpAny_pure (wpAny_throw ?_))
  refine wpAny_bind (wpAny_isInstance (T := "StopIteration") (b := true) ⟨_, Heap.get?_push_size _ rfl, rfl⟩ isSubtype_stop ?_)
  exact wpAny_pure (hQ _ (((Heap.SameBut.update ..).extBut.push _).push _))
theorem raw_walks (hh : A.handled = none) (I : Addr) (hne : d ≠ I) : Walks pw w A I [I, d] [I] vs.length (fun i v => vs[i]? = some v) (fun i h => h.IsValIter I d i vs.length ep ∧ RawAt h d vs ep) where
  sub := fun b hb => by simp at hb; simp [hb]
  frame := fun _ _ _ st hk => ⟨st.1.at fun o e => hk I (by simp) o e, st.2.keep fun o e => hk d (by simp) o e⟩
  item := fun i s Q E hi st hQ => raw_item st.1 st.2 (List.getElem?_eq_getElem hi) fun h' hit' hs' =>
    hQ _ h' s.toks (List.getElem?_eq_getElem hi) ⟨hit', st.2.keep fun o e => (hs'.2 d hne).trans e⟩ fun b o hb e => hs'.extBut b o (fun h => hb (by simp [h])) e
  done := fun s Q E st hQ => raw_end hh st.1 st.2 (Nat.le_refl _) fun h' he' => hQ h' s.toks fun b o hb e => he' b o (fun h => hb (by simp [h])) e
  self := fun _ _ _ _ st hQ => wpAny_pyIter_valiter st.1 hQ
end
/-- the values of a dict of the ledger -/
def VD (G : Led) (d : Addr) (vs : List Value) : Prop := ∃ o es ep, (d, o) ∈ G ∧ o.ExactDict ∧ o.data = .dict es ep ∧ es.toList.map (·.val) = vs ∧ (d == sysModules) = false
theorem VD.sub {G G' : Led} {d : Addr} {vs : List Value} (T : VD G d vs) (s : Sub G G') : VD G' d vs := let ⟨o, es, ep, m, r⟩ := T; ⟨o, es, ep, s _ m, r⟩
section
variable {v : V} {l : Locs} {G : Led} {nm : Str} {sc : Scope} {d : Nat} {k : Value → Locs → Led → Prop} {pos : Pos} {env : Env} {D : Addr} {vs : List Value}
theorem W_m_values {pl : Sem Bool} {km : Value × List Value → Locs → Led → Prop} (T : VD G D vs) (h : km (.builtin "dict.values", [.ref D]) l G) : W v (getMethod (.ref D) "values" pl) l G km := fun s Q E F N c => by
  obtain ⟨o, es, ep, m, hc, hd, he, lo⟩ := T
  exact getMethod_builtin ⟨o, (N _ m).1, hc.1⟩ PySem.F.plainAttrs_dict PySem.F.slot_dict_values PySem.F.type_dict_values (fun b e => by injection e with e; subst e; exact ⟨o, (N _ m).1, hc.2.1⟩) (c _ l G s.heap s.toks h F N)
theorem W_values (T : VD G D vs) (h : ∀ w, (∀ p ∈ G, p.1 < w) → (w, ({ cls := .type "dict_values", data := .fields #[.ref D] } : Obj)) ∈ ((w, { cls := .type "dict_values", data := .fields #[.ref D] }) :: G) → k (.ref w) l ((w, { cls := .type "dict_values", data := .fields #[.ref D] }) :: G)) :
    W v (call (.builtin "dict.values") [.ref D]) l G k := fun s Q E F N c => by
  obtain ⟨o, es, ep, m, hc, hd, he, lo⟩ := T
  refine raw_call_values (vs := vs) (ep := ep) lo ⟨o, es, (N _ m).1, hc.1, hd, he⟩ ?_
  obtain ⟨F', N'⟩ := new_at F N { cls := .type "dict_values", data := .fields #[.ref D] }
  exact c _ l _ _ s.toks (h _ (fun p hp => Heap.lt_size (N p hp).1) (.head _)) F' N'
theorem W_iter_values {w : Addr} (hv : Ok v nm sc d) (T : VD G D vs) (hm : (w, ({ cls := .type "dict_values", data := .fields #[.ref D] } : Obj)) ∈ G)
    (h : ∀ I o, (∀ p ∈ G, p.1 < I) → ItW v ((I, o) :: G) I [I, D] vs.length 0 (fun i u => vs[i]? = some u) → k (.ref I) l ((I, o) :: G)) : W v (pyIter (.ref w)) l G k := fun s Q E F N c => by
  obtain ⟨o, es, ep, m, hc, hd, he, lo⟩ := T
  refine raw_iter (vs := vs) (ep := ep) ⟨_, (N _ hm).1, rfl, rfl⟩ ⟨o, es, (N _ m).1, hc.1, hd, he⟩ ?_
  obtain ⟨F', N'⟩ := new_at F N { cls := .type "dict_valueiterator", data := .fields #[.ref D, .int 0 0, .int vs.length 0, .int ep 0] }
  have ne : D ≠ s.heap.objs.size := Nat.ne_of_lt (Heap.lt_size (N _ m).1)
  refine c _ l _ _ s.toks (h _ _ (fun p hp => Heap.lt_size (N p hp).1) ⟨_, fun A' hA => raw_walks (ep := ep) hA s.heap.objs.size ne, ?_, ⟨_, .head _⟩, ?_, ?_⟩) F' N'
  · rintro j hh ⟨⟨o, ho, hc, hd⟩, _⟩
    refine ⟨o, ho, ?_⟩
    unfold quietO; rw [hc, hd]; rfl
  · intro b hb
    rcases List.mem_cons.mp hb with rfl | hb
    · exact ⟨_, .inl (.head _)⟩
    · have : b = D := by simpa using hb
      subst this
      exact ⟨_, .inl (.tail _ m)⟩
  · intro h2 hG hh
    exact ⟨⟨_, hG _ _ (.inl rfl) (.head _), rfl, rfl⟩, ⟨o, es, hG _ _ (.inr (by simp)) (.tail _ m), hc.1, hd, he⟩⟩
theorem But.low {G G4 : Led} {C t : Addr} (b : But C G G4) (hC : ∃ o, (C, o) ∈ G4) (lt : ∀ p ∈ G4, p.1 < t) : ∀ q ∈ G, q.1 < t := fun q hq => by
  by_cases e : q.1 = C
  · obtain ⟨o, h⟩ := hC
    rw [e]; exact lt _ h
  · exact lt q (b q hq e)
theorem NL.mem {G : Led} {C : Addr} {lc : Locs} (T : NL G C lc) : ∃ o, (C, o) ∈ G := let ⟨o, _, _, h, _⟩ := T; ⟨o, h⟩
theorem take_snoc {α : Type} {l : List α} {i : Nat} {s : α} (h : l[i]? = some s) : l.take (i + 1) = l.take i ++ [s] := by rw [List.take_succ, h]; rfl
/-- the turns of a comprehension whose values lie in a part of the ledger that grows -/
theorem CompTurns.frz {env : Env} {scope : Scope} {cl : List (Str × Addr)} {target elt : Expr} {I : Addr} {fp : List Addr} {n : Nat} {P : Nat → Value → Prop} {C D : Addr} {Gb G2 G3 : Led} (J : Nat → List Value → Led → Prop)
    (hI : ∀ p ∈ Gb, p.1 < I) (hs : Sub Gb G2) (s3 : Sub G2 G3) (lt : ∀ p ∈ G2, p.1 < D) (hfp : ∀ b ∈ fp, b < D) (hIm : ∃ o, (I, o) ∈ G2) (dc : D < C) (j0 : J 0 [] Gb)
    (step : ∀ i acc lc a G Z, Sub Gb Z → Sub Z G → (∀ p ∈ Z, p.1 ≠ C) → i < n → P i a → J i acc Z → NL G C lc → W v (assign target (compEnvC scope cl C env) a) l G fun _ l3 G4 => W v (eval elt (compEnvC scope cl C env)) l3 G4 fun y l5 G5 =>
      l5 = l ∧ But C G G5 ∧ (∃ lc', NL G5 C lc') ∧ ∃ Z', Sub Z Z' ∧ Sub Z' G5 ∧ (∀ p ∈ Z', p ∈ Z ∨ ∀ q ∈ G, q.1 < p.1) ∧ J (i + 1) (acc ++ [y]) Z')
    (done : ∀ acc Z, acc.length = n → Sub Gb Z → J n acc Z → ∀ G', Sub Z G' → PL G' D acc → k (.ref D) l G') : CompTurns v env scope cl target elt l I fp n P C D G3 k := by
  have hIlt : I < D := let ⟨o, m⟩ := hIm; lt _ m
  have low : ∀ p ∈ Gb, p.1 < D := fun p hp => lt p (hs p hp)
  refine ⟨fun i acc G => ∃ Z, Sub Gb Z ∧ Sub Z G ∧ (∀ p ∈ Z, p.1 ≠ I ∧ p.1 ≠ C ∧ p.1 ≠ D) ∧ J i acc Z, ⟨Gb, Sub.rfl, hs.trans s3, fun p hp => ⟨Nat.ne_of_lt (hI p hp), Nat.ne_of_lt (Nat.lt_trans (low p hp) dc), Nat.ne_of_lt (low p hp)⟩, j0⟩,
    fun i acc G G' ⟨Z, h1, h2, h3, h4⟩ bt => ⟨Z, h1, fun p hp => bt p (h2 p hp) (h3 p hp).1, h3, h4⟩, ?_, ?_⟩
  · rintro i acc lc a G hi hP ⟨Z, z1, z2, z3, hJ⟩ T NC PD
    refine W_mono (step i acc lc a G Z z1 z2 (fun p hp => (z3 p hp).2.1) hi hP hJ NC) fun u l3 G4 h => W_mono h fun y l5 G5 h => ?_
    obtain ⟨e, b5, nl, Z', s1, s2, new, hj⟩ := h
    refine ⟨e, T.but b5 (Nat.ne_of_lt (Nat.lt_trans hIlt dc)) (fun hm => Nat.lt_asymm (hfp _ hm) dc), nl, PD.but b5 (Nat.ne_of_lt dc), fun G6 b6 _ => ?_⟩
    have hIG : ∃ o, (I, o) ∈ G := let ⟨_, _, _, h, _⟩ := T; h
    have hCG : ∃ o, (C, o) ∈ G := let ⟨o, _, _, h, _⟩ := NC; ⟨o, h⟩
    have hDG : ∃ o, (D, o) ∈ G := let ⟨n, h⟩ := PD; ⟨_, h⟩
    have ap : ∀ p ∈ Z', p.1 ≠ I ∧ p.1 ≠ C ∧ p.1 ≠ D := fun p hp => by
      rcases new p hp with h | h
      · exact z3 p h
      · obtain ⟨_, h1⟩ := hIG
        obtain ⟨_, h2⟩ := hCG
        obtain ⟨_, h3⟩ := hDG
        exact ⟨Nat.ne_of_gt (h _ h1), Nat.ne_of_gt (h _ h2), Nat.ne_of_gt (h _ h3)⟩
    exact ⟨Z', z1.trans s1, fun p hp => b6 p (s2 p hp) (ap p hp).2.2, ap, hj⟩
  · rintro acc G hl ⟨Z, z1, z2, z3, hJ⟩ PD G' b PD'
    exact done acc Z hl z1 hJ G' (fun p hp => b p (z2 p hp) (z3 p hp).2.1) PD'
theorem W_asgTupE {elts : List Expr} {kk} {p : Pos} {t : Addr} {vs : List Value} {k : Unit → Locs → Led → Prop} (hv : Ok v nm sc d) (T : TL G t vs)
    (h : W v (assignInOrder ((assignEach elts env).map (·.2)) vs) l G k) (hn : (assignEach elts env).length = vs.length) (hs : (assignEach elts env).findIdx? (·.1) = none) : W v (assign (.Tuple elts kk p) env (.ref t)) l G k := fun s Q E F N c =>
  unpackN_ F N (T.tup N) hv.hh (by rw [hn]; rfl) hs fun h' F' N' => h { s with heap := h' } Q E F' N' c
end

theorem But.rfl {a : Addr} {G : Led} : But a G G := fun _ h _ => h
theorem But.trans {a : Addr} {G G' G'' : Led} (h : But a G G') (k : But a G' G'') : But a G G'' := fun p m ne => k p (h p m ne) ne
theorem But.cons {a : Addr} {G G' : Led} {p : Addr × Obj} (h : But a G G') : But a G (p :: G') := fun q m ne => .tail _ (h q m ne)
theorem Sub.cons_but {a : Addr} {G G' : Led} {x : Addr × Obj} (s : But a (x :: G) G') (lt : ∀ p ∈ G, p.1 < a) : Sub G G' := fun p m => s p (.tail _ m) (Nat.ne_of_lt (lt p m))
section
variable {v : V} {l : Locs} {G : Led} {nm : Str} {sc : Scope} {d : Nat} {k : Value → Locs → Led → Prop} {pos : Pos} {env : Env}
theorem W_setfieldB {G₀ : Led} {x C dx : Addr} {fs fs' : Locs} {name : Str} {u : Value} {k : Unit → Locs → Led → Prop} (hv : Ok v nm sc d) (I : IG G x C dx fs) (b₀ : But dx G₀ G) (ok : storeOk (K v.w.params) C name = true) (S : SetF name u fs fs') (hz : fs'.length ≤ 100)
    (h : ∀ G', But dx G₀ G' → IG G' x C dx fs' → k () l G') : W v (setAttr (.ref x) name u) l G k := W_setfield hv I ok S hz fun G' b I' => h G' (b₀.trans b) I'
theorem W_sI {o u : Value} {n : Str} {k : Unit → Locs → Led → Prop} (h : W v (setAttr o n u) l G k) : W v (setAttr o n u) l G k := h
/-- a new object: its __init__ gives none, in the ledger G' -/
theorem W_newI {Cl fI : Addr} {vs : List Value} (hv : Ok v nm sc (d + 1)) (hm : makesIn (K v.w.params) Cl = true) (hi : findIn (K v.w.params) (.ref Cl) "__init__" = some (some (.ref fI))) (hf : isFn (K v.w.params) (.ref fI) = true)
    (h : ∀ v' x dx G', Ok v' nm sc d → v'.w = v.w → (∀ p ∈ G, p.1 < dx) → dx < x → Sub G G' → IG G' x Cl dx [] → (∀ p ∈ G', p.1 ≤ x) → C v' (.call (.ref fI) ⟨.ref x :: vs, []⟩) l G' fun a l' G' => a = .none ∧ k (.ref x) l' G') : W v (call (.ref Cl) vs) l G k :=
  W_new hv hm hi hf fun v' x dx hv' hw l1 l2 => h v' x dx _ hv' hw l1 l2 (fun p hp => .tail _ (.tail _ hp)) ⟨.head _, _, _, .tail _ (.head _), .nil⟩ (fun p hp => by
    rcases List.mem_cons.mp hp with rfl | hp
    · exact Nat.le_refl _
    rcases List.mem_cons.mp hp with rfl | hp
    · exact Nat.le_of_lt l2
    · exact Nat.le_of_lt (Nat.lt_trans (l1 p hp) l2))
end

def roomFor (no : List Str) : Nat := if no.contains "main" then 1 else 0
/-- an object, its dict, (at least) these fields, and none of those names -/
def HasX (G : Led) (x C dx : Addr) (req : Locs) (no : List Str) : Prop := ∃ fs, IG G x C dx fs ∧ fs.length + roomFor no ≤ 60 ∧ (∀ n u, req.lookup n = some u → fs.lookup n = some u) ∧ ∀ n ∈ no, fs.lookup n = none
theorem HasX.has {G : Led} {x C dx : Addr} {req : Locs} {no : List Str} (h : HasX G x C dx req no) : Has G x C req := let ⟨fs, I, _, r, _⟩ := h; ⟨dx, fs, I, r⟩
theorem HasX.sub {G G' : Led} {x C dx : Addr} {req : Locs} {no : List Str} (h : HasX G x C dx req no) (s : Sub G G') : HasX G' x C dx req no := let ⟨fs, I, r⟩ := h; ⟨fs, I.sub s, r⟩
theorem HasX.but {G G' : Led} {x C dx a : Addr} {req : Locs} {no : List Str} (h : HasX G x C dx req no) (s : But a G G') (ne : x ≠ a) (ne' : dx ≠ a) : HasX G' x C dx req no := let ⟨fs, I, r⟩ := h; ⟨fs, I.but s ne ne', r⟩
theorem IG.hasX {G : Led} {x C dx : Addr} {fs req : Locs} {no : List Str} (I : IG G x C dx fs) (hl : fs.length ≤ 50) (h : reqB req fs) (hn : (no.all fun n => (fs.lookup n).isNone) = true) : HasX G x C dx req no :=
  ⟨fs, I, by unfold roomFor; split <;> omega, fun n u e => h _ (lookup_mem e), fun n hn' => by simpa using List.all_eq_true.mp hn n hn'⟩
theorem SetF.at {name : Str} {u : Value} : ∀ {fs fs' : Locs}, SetF name u fs fs' → fs'.lookup name = some u
  | _, _, .hd => look_hd
  | _, _, .tl ne S => by rw [List.lookup_cons, show (name == _) = false by rw [Bool.beq_comm]; exact ne]; exact S.at
  | _, _, .nil => look_hd
theorem SetF.ne {name n : Str} {u : Value} (hn : n ≠ name) : ∀ {fs fs' : Locs}, SetF name u fs fs' → fs'.lookup n = fs.lookup n
  | _, _, .hd => by rw [List.lookup_cons, List.lookup_cons, show (n == name) = false by simpa using hn]
  | _, _, .tl ne S => by rw [List.lookup_cons, List.lookup_cons, S.ne hn]
  | _, _, .nil => by rw [List.lookup_cons, show (n == name) = false by simpa using hn]
theorem SetF.ex {name : Str} {u old : Value} : ∀ {fs : Locs}, fs.lookup name = some old → ∃ fs', SetF name u fs fs' ∧ fs'.length = fs.length
  | (x, w) :: r, h => by
    by_cases e : x = name
    · subst e; exact ⟨_, .hd, rfl⟩
    · have e1 : (x == name) = false := by simpa using e
      rw [List.lookup_cons, show (name == x) = false by rw [Bool.beq_comm]; exact e1] at h
      obtain ⟨fs', S, hl⟩ := SetF.ex (fs := r) h
      exact ⟨_, .tl e1 S, by rw [List.length_cons, List.length_cons, hl]⟩
section
variable {v : V} {l : Locs} {G : Led} {nm : Str} {sc : Scope} {d : Nat} {k : Value → Locs → Led → Prop} {pos : Pos} {env : Env}
theorem W_setX {G₀ : Led} {x C dx : Addr} {req req' : Locs} {no : List Str} {name : Str} {u old : Value} {k : Unit → Locs → Led → Prop} (hv : Ok v nm sc d) (I : HasX G x C dx req no) (b₀ : But dx G₀ G) (ok : storeOk (K v.w.params) C name = true) (hr : req.lookup name = some old) (S : SetF name u req req')
    (h : ∀ G', But dx G₀ G' → HasX G' x C dx req' no → k () l G') : W v (setAttr (.ref x) name u) l G k := by
  obtain ⟨fs, I, hl, hq, hn⟩ := I
  obtain ⟨fs', S', hl'⟩ := SetF.ex (u := u) (hq _ _ hr)
  refine W_setfield hv I ok S' (by omega) fun G' b I' => h G' (b₀.trans b) ⟨fs', I', by rw [hl']; exact hl, fun n w e => ?_, fun n hm => ?_⟩
  · by_cases q : n = name
    · subst q
      rw [S.at] at e
      rw [S'.at]; exact e
    · rw [S.ne q] at e
      rw [S'.ne q]; exact hq n w e
  · have q : n ≠ name := by
      rintro rfl
      have := hn n hm
      rw [hq _ _ hr] at this; cases this
    rw [S'.ne q]; exact hn n hm
theorem SetF.exn {name : Str} {u : Value} : ∀ {fs : Locs}, ∃ fs', SetF name u fs fs' ∧ fs'.length ≤ fs.length + 1
  | [] => ⟨_, .nil, Nat.le_refl _⟩
  | (x, w) :: r => by
    by_cases e : x = name
    · subst e; exact ⟨_, .hd, Nat.le_succ _⟩
    · obtain ⟨fs', S, hl⟩ := SetF.exn (name := name) (u := u) (fs := r)
      exact ⟨_, .tl (by simpa using e) S, by rw [List.length_cons, List.length_cons]; omega⟩
/-- the one field that comes late -/
theorem W_setMain {G₀ : Led} {x C dx : Addr} {req : Locs} {no : List Str} {u : Value} {k : Unit → Locs → Led → Prop} (hv : Ok v nm sc d) (I : HasX G x C dx req ("main" :: no)) (b₀ : But dx G₀ G) (ok : storeOk (K v.w.params) C "main" = true) (hr : req.lookup ("main" : Str) = none) (hn : roomFor no = 0) (hno : ("main" : Str) ∉ no)
    (h : ∀ G', But dx G₀ G' → HasX G' x C dx req no → k () l G') : W v (setAttr (.ref x) "main" u) l G k := by
  obtain ⟨fs, I, hl, hq, hn'⟩ := I
  obtain ⟨fs', S', hl'⟩ := SetF.exn (name := "main") (u := u) (fs := fs)
  have e1 : roomFor ("main" :: no) = 1 := by unfold roomFor; rw [List.contains_cons]; simp
  rw [e1] at hl
  refine W_setfield hv I ok S' (by omega) fun G' b I' => h G' (b₀.trans b) ⟨fs', I', by omega, fun n w e => ?_, fun n hm => ?_⟩
  · have q : n ≠ "main" := by rintro rfl; rw [hr] at e; cases e
    rw [S'.ne q]; exact hq n w e
  · have q : n ≠ "main" := by rintro rfl; exact hno hm
    rw [S'.ne q]; exact hn' n (.tail _ hm)
theorem W_methodX {x C dx f : Addr} {req : Locs} {no : List Str} {name : Str} {pl : Sem Bool} {k : Value × List Value → Locs → Led → Prop} (hv : Ok v nm sc d) (I : HasX G x C dx req no) (ok : methOk (K v.w.params) C name f = true) (hm : name ∈ no) (h : k (.ref f, [.ref x]) l G) : W v (getMethod (.ref x) name pl) l G k :=
  let ⟨_, I, _, _, hn⟩ := I; W_method hv I ok (hn _ hm) h
theorem W_fieldX {x C dx : Addr} {req : Locs} {no : List Str} {name : Str} {u : Value} {ex : Bool} (hv : Ok v nm sc d) (I : HasX G x C dx req no) (ok : fieldOk (K v.w.params) C name = true) (hl : req.lookup name = some u) (hh : handedIn u = true) (h : k u l G) : W v (getAttr (.ref x) name ex) l G k := W_fieldH hv I.has ok hl hh h
end
/-- from the ledger G (its still part Z) to G' (Z'): only the objects of S turn -/
structure Grow (S : List Addr) (G Z G' Z' : Led) : Prop where
  zz : Sub Z Z'
  but : ∀ p ∈ G, p.1 ∉ S → p ∈ G'
  dom : ∀ p ∈ G, ∃ o, (p.1, o) ∈ G'
  new : ∀ p ∈ Z', p ∈ Z ∨ ∀ q ∈ G, q.1 < p.1
/-- the still part lies in the ledger, and holds none of S -/
structure Still (S : List Addr) (G Z : Led) : Prop where
  zg : Sub Z G
  ap : ∀ p ∈ Z, p.1 ∉ S
  at' : ∀ a ∈ S, ∃ o, (a, o) ∈ G
theorem Grow.refl {S : List Addr} {G Z : Led} : Grow S G Z G Z := ⟨Sub.rfl, fun _ h _ => h, fun p h => ⟨p.2, h⟩, fun _ h => .inl h⟩
theorem Grow.trans {S : List Addr} {G Z G' Z' G'' Z'' : Led} (a : Grow S G Z G' Z') (b : Grow S G' Z' G'' Z'') : Grow S G Z G'' Z'' where
  zz := a.zz.trans b.zz
  but p h n := b.but p (a.but p h n) n
  dom p h := let ⟨o, h1⟩ := a.dom p h; b.dom (p.1, o) h1
  new p h := by
    rcases b.new p h with h | h
    · exact a.new p h
    · refine .inr fun q hq => ?_
      obtain ⟨o, h1⟩ := a.dom q hq
      exact h (q.1, o) h1
theorem Grow.mono {S S' : List Addr} {G Z G' Z' : Led} (a : Grow S G Z G' Z') (h : ∀ x ∈ S, x ∈ S') : Grow S' G Z G' Z' := ⟨a.zz, fun p m n => a.but p m fun q => n (h _ q), a.dom, a.new⟩
theorem Grow.ofBut {S : List Addr} {a : Addr} {G Z G' : Led} (b : But a G G') (ha : a ∈ S) (hd : ∃ o, (a, o) ∈ G') : Grow S G Z G' Z where
  zz := Sub.rfl
  but p h n := b p h fun e => n (e ▸ ha)
  dom p h := by
    by_cases e : p.1 = a
    · rw [e]; exact hd
    · exact ⟨p.2, b p h e⟩
  new _ h := .inl h
theorem Grow.ofSub {S : List Addr} {G Z G' : Led} (b : Sub G G') : Grow S G Z G' Z := ⟨Sub.rfl, fun p h _ => b p h, fun p h => ⟨p.2, b p h⟩, fun _ h => .inl h⟩
theorem Still.grow {S : List Addr} {G Z G' Z' : Led} (h : Still S G Z) (g : Grow S G Z G' Z') (zg : Sub Z' G') : Still S G' Z' where
  zg := zg
  ap p hp := by
    rcases g.new p hp with q | q
    · exact h.ap p q
    · intro hm
      obtain ⟨o, ho⟩ := h.at' _ hm
      exact Nat.lt_irrefl _ (q (p.1, o) ho)
  at' a ha := let ⟨o, ho⟩ := h.at' a ha; g.dom (a, o) ho
theorem Still.but {S : List Addr} {G Z G' : Led} {a : Addr} (h : Still S G Z) (b : But a G G') (ha : a ∈ S) (hd : ∃ o, (a, o) ∈ G') : Still S G' Z :=
  h.grow (Grow.ofBut b ha hd) fun p hp => b p (h.zg p hp) fun e => h.ap p hp (e ▸ ha)
theorem Still.sub {S : List Addr} {G Z G' : Led} (h : Still S G Z) (b : Sub G G') : Still S G' Z := ⟨h.zg.trans b, h.ap, fun a ha => let ⟨o, ho⟩ := h.at' a ha; ⟨o, b _ ho⟩⟩
theorem HasX.mem {G : Led} {x C dx : Addr} {req : Locs} {no : List Str} (h : HasX G x C dx req no) : ∃ o, (dx, o) ∈ G := let ⟨_, ⟨_, _, _, m, _⟩, _⟩ := h; ⟨_, m⟩
theorem SD.mem {w : World} {G : Led} {a : Addr} {kvs : List (Str × Value)} (h : SD w G a kvs) : ∃ o, (a, o) ∈ G := let ⟨o, m, _⟩ := h; ⟨o, m⟩
theorem Grow.freeze {S : List Addr} {G Z G' Z' : Led} {x C dx : Addr} {req : Locs} {no : List Str} (g : Grow S G Z G' Z') (zg : Sub Z' G') (h : HasX G' x C dx req no) (lt : ∀ q ∈ G, q.1 < dx) (dc : dx < x) :
    ∃ Z'', Grow S G Z G' Z'' ∧ Sub Z'' G' ∧ Sub Z' Z'' ∧ HasX Z'' x C dx req no := by
  obtain ⟨fs, ⟨m1, es, n, m2, fl⟩, r⟩ := h
  have new : ∀ p ∈ (x, instObj C dx) :: (dx, dictOf es n) :: Z', p ∈ Z' ∨ ∀ q ∈ G, q.1 < p.1 := fun p hp => by
    rcases List.mem_cons.mp hp with rfl | hp
    · exact .inr fun q hq => Nat.lt_trans (lt q hq) dc
    rcases List.mem_cons.mp hp with rfl | hp
    · exact .inr lt
    · exact .inl hp
  refine ⟨(x, instObj C dx) :: (dx, dictOf es n) :: Z', ⟨fun p hp => .tail _ (.tail _ (g.zz p hp)), g.but, g.dom, fun p hp => ?_⟩, fun p hp => ?_, fun p hp => .tail _ (.tail _ hp), ⟨fs, ⟨.head _, es, n, .tail _ (.head _), fl⟩, r⟩⟩
  · rcases new p hp with h | h
    · exact g.new p h
    · exact .inr h
  · rcases List.mem_cons.mp hp with rfl | hp
    · exact m1
    rcases List.mem_cons.mp hp with rfl | hp
    · exact m2
    · exact zg p hp
/-- a new object in the still part -/
theorem Grow.freeze1 {S : List Addr} {G Z G' Z' : Led} {x : Addr} {o : Obj} (g : Grow S G Z G' Z') (zg : Sub Z' G') (h : (x, o) ∈ G') (lt : ∀ q ∈ G, q.1 < x) : Grow S G Z G' ((x, o) :: Z') ∧ Sub ((x, o) :: Z') G' := by
  refine ⟨⟨fun p hp => .tail _ (g.zz p hp), g.but, g.dom, fun p hp => ?_⟩, fun p hp => ?_⟩
  · rcases List.mem_cons.mp hp with rfl | hp
    · exact .inr lt
    · exact g.new p hp
  · rcases List.mem_cons.mp hp with rfl | hp
    · exact h
    · exact zg p hp
theorem Grow.lt {S : List Addr} {G Z G' Z' : Led} {x : Addr} (g : Grow S G Z G' Z') (lt : ∀ q ∈ G', q.1 < x) : ∀ q ∈ G, q.1 < x := fun q hq => let ⟨o, ho⟩ := g.dom q hq; lt (q.1, o) ho
theorem nodup_len {α : Type} [DecidableEq α] : ∀ (l L : List α), l.Nodup → (∀ x ∈ l, x ∈ L) → l.length ≤ L.length
  | [], _, _, _ => Nat.zero_le _
  | a :: r, L, h, hs => by
    rw [List.nodup_cons] at h
    have ha := hs a (.head _)
    have := nodup_len r (L.erase a) h.2 fun x hx => (List.mem_erase_of_ne (fun (e : x = a) => h.1 (e ▸ hx))).mpr (hs x (.tail _ hx))
    rw [List.length_erase_of_mem ha] at this
    have := List.length_pos_of_mem ha
    rw [List.length_cons]
    omega

section
variable {v : V} {l : Locs} {G : Led} {nm : Str} {sc : Scope} {d : Nat} {k : Value → Locs → Led → Prop} {pos : Pos} {env : Env}
theorem ItW.grow {I : Addr} {fp : List Addr} {n i : Nat} {P : Nat → Value → Prop} {S : List Addr} {G Z G' Z' : Led} (T : ItW v G I fp n i P) (g : Grow S G Z G' Z') (h1 : I ∉ S) (h2 : ∀ b ∈ fp, b ∉ S) : ItW v G' I fp n i P :=
  T.to fun b o hb m => g.but _ m (by
    rcases hb with rfl | hb
    · exact h1
    · exact h2 b hb)
theorem PL.grow {S : List Addr} {G Z G' Z' : Led} {a : Addr} {vs : List Value} (h : PL G a vs) (g : Grow S G Z G' Z') (ha : a ∉ S) : PL G' a vs := let ⟨n, m⟩ := h; ⟨n, g.but _ m ha⟩
/-- the turns of a comprehension that turns the objects of S -/
theorem CompTurns.grow {env : Env} {scope : Scope} {cl : List (Str × Addr)} {target elt : Expr} {I : Addr} {fp : List Addr} {n : Nat} {P : Nat → Value → Prop} {C D : Addr} {Gb G2 G3 Z0 : Led} {S : List Addr} (J : Nat → List Value → Led → Led → Prop)
    (hI : ∀ q ∈ Gb, q.1 < I) (hS : ∀ a ∈ S, ∃ o, (a, o) ∈ Gb) (hfS : ∀ b ∈ fp, b ∉ S) (hZ : ∀ q ∈ Z0, q.1 < I) (lt : ∀ q ∈ G2, q.1 < D) (hfp : ∀ b ∈ fp, b < D) (hIm : ∃ o, (I, o) ∈ G2) (dc : D < C) (j0 : J 0 [] G3 Z0)
    (stable : ∀ i acc G G' Z a, J i acc G Z → But a G G' → (∀ q ∈ Gb, q.1 < a) → (∀ q ∈ Z, q.1 ≠ a) → J i acc G' Z)
    (step : ∀ i acc lc a G Z, i < n → P i a → J i acc G Z → (∀ q ∈ Z, q.1 ≠ C) → (∀ q ∈ Gb, q.1 < C) → NL G C lc → W v (assign target (compEnvC scope cl C env) a) l G fun _ l3 G4 => W v (eval elt (compEnvC scope cl C env)) l3 G4 fun y l5 G5 =>
      l5 = l ∧ (∃ lc', NL G5 C lc') ∧ ∃ Z', Grow (C :: S) G Z G5 Z' ∧ J (i + 1) (acc ++ [y]) G5 Z')
    (done : ∀ acc G Z, acc.length = n → J n acc G Z → PL G D acc → k (.ref D) l G) : CompTurns v env scope cl target elt l I fp n P C D G3 k := by
  have hIlt : I < D := let ⟨o, m⟩ := hIm; lt _ m
  have IC : I < C := Nat.lt_trans hIlt dc
  have nS : ∀ a, I ≤ a → a ∉ S := fun a h hm => by
    obtain ⟨o, m⟩ := hS a hm
    exact Nat.lt_irrefl _ (Nat.lt_of_lt_of_le (hI _ m) h)
  have nF : ∀ a, I ≤ a → ∀ q ∈ Gb, q.1 < a := fun a h q hq => Nat.lt_of_lt_of_le (hI q hq) h
  refine ⟨fun i acc G => ∃ Z, J i acc G Z ∧ (∀ p ∈ Z, p.1 ≠ I ∧ p.1 ≠ C ∧ p.1 ≠ D), ⟨Z0, j0, fun p hp => ⟨Nat.ne_of_lt (hZ p hp), Nat.ne_of_lt (Nat.lt_trans (hZ p hp) IC), Nat.ne_of_lt (Nat.lt_trans (hZ p hp) hIlt)⟩⟩,
    fun i acc G G' ⟨Z, h1, h2⟩ b => ⟨Z, stable _ _ _ _ _ _ h1 b (nF _ (Nat.le_refl _)) fun p hp => (h2 p hp).1, h2⟩, ?_, ?_⟩
  · rintro i acc lc a G hi hP ⟨Z, hJ, z3⟩ T NC PD
    refine W_mono (step i acc lc a G Z hi hP hJ (fun p hp => (z3 p hp).2.1) (nF _ (Nat.le_of_lt IC)) NC) fun u l3 G4 h => W_mono h fun y l5 G5 h => ?_
    obtain ⟨e, nl, Z', g, hj⟩ := h
    have iS : I ∉ C :: S := by rw [List.mem_cons]; rintro (e | e); exact Nat.ne_of_lt IC e; exact nS _ (Nat.le_refl _) e
    have dS : D ∉ C :: S := by rw [List.mem_cons]; rintro (e | e); exact Nat.ne_of_lt dc e; exact nS _ (Nat.le_of_lt hIlt) e
    have fS : ∀ b ∈ fp, b ∉ C :: S := fun b hb => by rw [List.mem_cons]; rintro (e | e); exact Nat.ne_of_lt (Nat.lt_trans (hfp b hb) dc) e; exact hfS b hb e
    refine ⟨e, T.grow g iS fS, nl, PD.grow g dS, fun G6 b6 _ => ?_⟩
    obtain ⟨oI, hIG⟩ : ∃ o, (I, o) ∈ G := let ⟨_, _, _, h, _⟩ := T; h
    obtain ⟨oC, hCG⟩ := NC.mem
    obtain ⟨nD, hDG⟩ := PD
    have ap : ∀ p ∈ Z', p.1 ≠ I ∧ p.1 ≠ C ∧ p.1 ≠ D := fun p hp => by
      rcases g.new p hp with h | h
      · exact z3 p h
      · exact ⟨Nat.ne_of_gt (h _ hIG), Nat.ne_of_gt (h _ hCG), Nat.ne_of_gt (h _ hDG)⟩
    exact ⟨Z', stable _ _ _ _ _ _ hj b6 (nF _ (Nat.le_of_lt hIlt)) fun p hp => (ap p hp).2.2, ap⟩
  · rintro acc G hl ⟨Z, hJ, z3⟩ PD G' b PD'
    exact done acc G' Z hl (stable _ _ _ _ _ _ hJ b (nF _ (Nat.le_of_lt IC)) fun p hp => (z3 p hp).2.1) PD'
end
theorem HasX.grow {S : List Addr} {G Z G' Z' : Led} {x C dx : Addr} {req : Locs} {no : List Str} (h : HasX G x C dx req no) (g : Grow S G Z G' Z') (h1 : x ∉ S) (h2 : dx ∉ S) : HasX G' x C dx req no :=
  let ⟨fs, ⟨m1, es, n, m2, fl⟩, r⟩ := h; ⟨fs, ⟨g.but _ m1 h1, es, n, g.but _ m2 h2, fl⟩, r⟩
theorem Grow.fresh {S : List Addr} {a : Addr} {G Z G1 Z1 G2 : Led} (g : Grow S G Z G1 Z1) (b : But a G1 G2) (lt : ∀ q ∈ G, q.1 < a) : Grow S G Z G2 Z1 where
  zz := g.zz
  but p h n := b p (g.but p h n) (Nat.ne_of_lt (lt p h))
  dom p h := let ⟨o, h1⟩ := g.dom p h; ⟨o, b _ h1 (Nat.ne_of_lt (lt p h))⟩
  new := g.new
theorem Grow.sub {S : List Addr} {G Z G1 Z1 G2 : Led} (g : Grow S G Z G1 Z1) (b : Sub G1 G2) : Grow S G Z G2 Z1 := g.trans (Grow.ofSub b)
theorem valueAt_stored_new {kvs : List (Str × Value)} {x : Str} {u : Value} (h : valueAt kvs x = none) : stored kvs x u = kvs ++ [(x, u)] := by
  unfold stored
  rw [if_neg]
  intro hm
  obtain ⟨q, hq, e⟩ := List.any_eq_true.mp hm
  have e : q.1 = x := by simpa using e
  unfold valueAt at h
  rw [Option.map_eq_none_iff, List.find?_eq_none] at h
  exact h q hq (by simpa using e)
theorem valueAt_app {kvs r : List (Str × Value)} {x : Str} {u : Value} (h : valueAt kvs x = some u) : valueAt (kvs ++ r) x = some u := by
  unfold valueAt at h ⊢
  rw [List.find?_append]
  obtain ⟨q, hq, e⟩ := Option.map_eq_some_iff.mp h
  rw [hq]; simpa using e
theorem valueAt_new {kvs : List (Str × Value)} {x : Str} {u : Value} (h : valueAt kvs x = none) : valueAt (kvs ++ [(x, u)]) x = some u := by
  unfold valueAt at h ⊢
  rw [Option.map_eq_none_iff] at h
  rw [List.find?_append, h]
  simp
theorem valueAt_mem {kvs : List (Str × Value)} {x : Str} {u : Value} (h : valueAt kvs x = some u) : (x, u) ∈ kvs := by
  unfold valueAt at h
  obtain ⟨q, hq, rfl⟩ := Option.map_eq_some_iff.mp h
  have e : q.1 = x := by simpa using List.find?_some hq
  have := List.mem_of_find?_eq_some hq
  rw [← e]; exact this

/-- texts and ints as keys -/
def mixKind (w : World) : KeyKind pw w (Str ⊕ Int) where
  is := fun k v => match k with
    | .inl x => Value.isStrOf x v
    | .inr i => Value.isInt i v
  hash := fun k => match k with
    | .inl x => hashStr w x
    | .inr i => hashInt i
  inj := fun v a b ha hb => by
    cases a with
    | inl x =>
      obtain ⟨t, rfl⟩ := Value.isStrOf_shape ha
      cases b with
      | inl y => rw [Value.isStrOf_inj _ x y ha hb]
      | inr j => exact absurd hb (by simp [Value.isInt])
    | inr i =>
      obtain ⟨t, rfl⟩ := Value.isInt_shape ha
      cases b with
      | inl y => exact absurd hb (by simp [Value.isStrOf])
      | inr j => rw [Value.isInt_inj _ i j ha hb]
  byValue := fun k v h => by
    cases k with
    | inl x => obtain ⟨t, rfl⟩ := Value.isStrOf_shape h; rfl
    | inr i => obtain ⟨t, rfl⟩ := Value.isInt_shape h; rfl
  pyHash := fun {A E s k v Q} hv h => by
    cases k with
    | inl x => obtain ⟨t, rfl⟩ := Value.isStrOf_shape hv; exact wpAny_pyHash_str h
    | inr i => obtain ⟨t, rfl⟩ := Value.isInt_shape hv; exact wpAny_pyHash_int h
  eqBool := fun {A E s a b u v Q} hu hv h => by
    cases a with
    | inl x =>
      obtain ⟨t, rfl⟩ := Value.isStrOf_shape hu
      cases b with
      | inl y =>
        obtain ⟨t', rfl⟩ := Value.isStrOf_shape hv
        refine wpAny_eqBool_str ?_
        have e : decide (x = y) = decide ((Sum.inl x : Str ⊕ Int) = .inl y) := by simp
        rw [e]; exact h
      | inr j =>
        obtain ⟨t', rfl⟩ := Value.isInt_shape hv
        exact PySem.SeqAt.EqAt.str_int (A := A) (s := s) x t j t' pw w E Q h
    | inr i =>
      obtain ⟨t, rfl⟩ := Value.isInt_shape hu
      cases b with
      | inl y =>
        obtain ⟨t', rfl⟩ := Value.isStrOf_shape hv
        exact PySem.SeqAt.EqAt.int_str (A := A) (s := s) i t y t' pw w E Q h
      | inr j =>
        obtain ⟨t', rfl⟩ := Value.isInt_shape hv
        refine wpAny_eqBool_int ?_
        have e : (i == j) = decide ((Sum.inr i : Str ⊕ Int) = .inr j) := by
          by_cases q : i = j
          · subst q; simp
          · simp [q]
        rw [e]; exact h
  «strs» := fun k x t v h => by
    cases k with
    | inl y =>
      obtain ⟨u, hu⟩ := Value.isStrOf_shape h
      injection hu with hx
      subst hx
      cases v <;> rfl
    | inr i => exact absurd h (by simp [Value.isInt])
abbrev TKey := List (Str ⊕ Int)
def TK (w : World) (G : Led) (a : Addr) (ks : TKey) : Prop := ∃ o, (a, o) ∈ G ∧ o.cls = .type "tuple" ∧ ∃ items n, o.data = .seq items n ∧ ItemsAre (mixKind w) ks items.toList
theorem TK.sub {w : World} {G G' : Led} {a : Addr} {ks : TKey} (h : TK w G a ks) (s : Sub G G') : TK w G' a ks := let ⟨o, m, r⟩ := h; ⟨o, s _ m, r⟩
theorem TK.but {w : World} {G G' : Led} {a b : Addr} {ks : TKey} (h : TK w G a ks) (s : But b G G') (ne : a ≠ b) : TK w G' a ks := let ⟨o, m, r⟩ := h; ⟨o, s _ m ne, r⟩
theorem TK.is {w : World} {G : Led} {a : Addr} {ks : TKey} {h₀ h : Heap} {L : Addr} (x : TK w G a ks) (N : News h₀ L h G) : IsTupleKey (mixKind w) h ks a := let ⟨o, m, c, items, n, d, i⟩ := x; ⟨o, items, n, (N _ m).1, c, d, i⟩
/-- a dict of tuples -/
def HD (w : World) (G : Led) (d : Addr) (xs : List (TKey × Addr × Value)) : Prop :=
  ∃ o es ep, (d, o) ∈ G ∧ o.ExactDict ∧ o.data = .dict es ep ∧ es.toList = xs.map (entryOfKey (tupleKind (mixKind w))) ∧ (∀ x ∈ xs, TK w G x.2.1 x.1) ∧ (xs.map (·.1)).Nodup ∧ (d == sysModules) = false
theorem HD.sub {w : World} {G G' : Led} {d : Addr} {xs : List (TKey × Addr × Value)} (h : HD w G d xs) (s : Sub G G') : HD w G' d xs :=
  let ⟨o, es, ep, m, a, b, c, k, r⟩ := h; ⟨o, es, ep, s _ m, a, b, c, fun x hx => (k x hx).sub s, r⟩
theorem HD.of {w : World} {G : Led} {d : Addr} {xs : List (TKey × Addr × Value)} {h₀ h : Heap} {L : Addr} (x : HD w G d xs) (N : News h₀ L h G) : h.DictOfH (tupleKind (mixKind w)) d xs :=
  let ⟨o, es, ep, m, a, b, c, k, n, _⟩ := x; ⟨o, es, ep, (N _ m).1, a, b, c, fun y hy => (k y hy).is N, n⟩
theorem HD.vd {w : World} {G : Led} {d : Addr} {xs : List (TKey × Addr × Value)} (h : HD w G d xs) : VD G d (xs.map (·.2.2)) :=
  let ⟨o, es, ep, m, a, b, c, _, _, lo⟩ := h; ⟨o, es, ep, m, a, b, by rw [c, List.map_map]; rfl, lo⟩
theorem HD.new {w : World} {G : Led} {d : Addr} {n : Nat} (h : (d, dictOf [] n) ∈ G) (lo : (d == sysModules) = false) : HD w G d [] := ⟨_, #[], n, h, ⟨rfl, rfl, rfl⟩, rfl, rfl, (by intro x hx; cases hx), List.nodup_nil, lo⟩
section
variable {v : V} {l : Locs} {G : Led} {nm : Str} {sc : Scope} {d : Nat} {k : Value → Locs → Led → Prop} {pos : Pos} {env : Env} {D a : Addr} {w : World} {ks : TKey} {xs : List (TKey × Addr × Value)}
theorem W_m_hget {pl : Sem Bool} {km : Value × List Value → Locs → Led → Prop} (T : HD w G D xs) (h : km (.builtin "dict.get", [.ref D]) l G) : W v (getMethod (.ref D) "get" pl) l G km := fun s Q E F N c => by
  obtain ⟨o, es, ep, m, hc, _⟩ := T
  exact getMethod_builtin ⟨o, (N _ m).1, hc.1⟩ PySem.F.plainAttrs_dict PySem.F.slot_dict_get PySem.F.type_dict_get (fun b e => by injection e with e; subst e; exact ⟨o, (N _ m).1, hc.2.1⟩) (c _ l G s.heap s.toks h F N)
theorem Ok.room1 (hv : Ok v nm sc d) : v.A.units + 1 < cLine := by have := hv.un; omega
theorem W_hget (hw : v.w = w) (hv : Ok v nm sc d) (T : HD w G D xs) (Kt : TK w G a ks) (hn : atKey xs ks = none) (h : k .none l G) : W v (call (.builtin "dict.get") [.ref D, .ref a]) l G k := fun s Q E F N c => by
  subst hw
  have hD := T.of N
  have lo : (D == sysModules) = false := let ⟨_, _, _, _, _, _, _, _, _, lo⟩ := T; lo
  refine call_meetsIn PySem.F.slot_dict_get hD.typeIs PySem.F.entry_dict_get (PySem.F.args_dict_get_2 _ _) (meetsH_dict_get (tupleKind (mixKind v.w)) D a lo) ⟨hv.room1, ks, xs, Kt.is N, hD, ?_⟩
  rw [hn]
  exact c _ l G s.heap _ h F N
theorem W_hset {u : Value} {ku : Unit → Locs → Led → Prop} (hw : v.w = w) (hv : Ok v nm sc d) (T : HD w G D xs) (Kt : TK w G a ks) (hn : atKey xs ks = none) (hsz : xs.length ≤ sizeLine) (h : ∀ G', But D G G' → HD w G' D (xs ++ [(ks, a, u)]) → ku () l G') : W v (setItem (.ref D) (.ref a) u) l G ku := fun s Q E F N c => by
  subst hw
  have hD := T.of N
  obtain ⟨o, es, ep, m, x1, x2, x3, x4, x5, lo⟩ := T
  have ne : ∀ b ks', TK v.w G b ks' → b ≠ D := by
    rintro b ks' ⟨o', m', c', _⟩ rfl
    have e1 := (N _ m).1
    have e2 := (N _ m').1
    dsimp only at e1 e2
    rw [e1] at e2
    cases e2
    rw [x1.1] at c'
    exact absurd (Value.type.inj c') (by decide)
  refine wpAny_setItem_heap (hsz := hsz) hv.room1 (Kt.is N) hD fun h' hm hs => ?_
  rw [storedH_new hn] at hm
  obtain ⟨o', es', ep', y0, y1, y2, y3, y4, y5⟩ := hm
  obtain ⟨F', _⟩ := fr_but F N ⟨_, m⟩ fun b o ne e => (hs.2 b ne).trans e
  refine c () l _ h' _ (h (upd G D o') upd_but ⟨o', es', ep', upd_at, y1, y2, y3, fun x hx => ?_, y5, lo⟩) F' (news_put N m hs y0)
  rcases List.mem_append.mp hx with hx | hx
  · exact (x4 x hx).but upd_but (ne _ _ (x4 x hx))
  · have : x = (ks, a, u) := by simpa using hx
    subst this
    exact Kt.but upd_but (ne _ _ Kt)
theorem W_orV {e1 e2 : Expr} (h : W v (eval e1 env) l G fun a l1 G1 => W v (truthy a) l1 G1 fun b l2 G2 => if b then k a l2 G2 else W v (eval e2 env) l2 G2 k) : W v (eval (.BoolOp .Or [e1, e2] pos) env) l G k := fun s Q E F N c =>
  BoolOp_or (h s _ E F N fun a l1 G1 h1 t1 x F1 N1 => x { s with heap := h1, toks := t1 } _ E F1 N1 fun b l2 G2 h2 t2 y F2 N2 => by
    cases b with
    | true => exact c a l2 G2 h2 t2 y F2 N2
    | false => exact BoolOp_one (y { s with heap := h2, toks := t2 } Q E F2 N2 c))
theorem W_listCopy {li : Addr} {vs : List Value} (T : IL G li vs) (hz : vs.length ≤ sizeLine) (h : ∀ B o, (∀ p ∈ G, p.1 < B) → PL ((B, o) :: G) B vs → k (.ref B) l ((B, o) :: G)) : W v (call (.type "list") [.ref li]) l G k := fun s Q E F N c =>
  list_copyK F N (T.list N) (fun B c' h' F' N' lt => c _ l _ h' s.toks (h B _ lt ⟨c', .head _⟩) F' N') (by simpa using hz)
/-- a new list, and it lies above all that is written -/
theorem W_newListH {vs : List Value} (hv : Ok v nm sc d) (hsz : vs.length ≤ sizeLine) (h : ∀ t o, (∀ p ∈ G, p.1 < t) → 770 < t → PL ((t, o) :: G) t vs → k (.ref t) l ((t, o) :: G)) : W v (newList vs) l G k := fun s Q E F N c =>
  newList_N F N (fun h' F' N' => c _ l _ h' s.toks (h _ _ (fun p hp => Heap.lt_size (N p hp).1) (by
    have h1 := Heap.lt_size (hv.X 770 _ (by kernel_rfl : (K v.w.params).lookup 770 = some (k770 v.w.params)))
    have h2 := F.above
    have h5 := F.ns.lt
    exact Nat.lt_of_lt_of_le h1 (Nat.le_trans h2 (Nat.le_of_lt h5))) ⟨_, .head _⟩) F' N') hsz
end

theorem strDraws {w : World} {A : Around} (hh : A.handled = none) (it : Addr) (x : Str) (t : Tok) : Draws pw w A it [it] x.cps.size (SignAt x) (fun i h => h.IsStrIter it (strIterType x) x t i) := by
  by_cases ha : x.cps.all (· < 128) = true
  · have e : strIterType x = "str_ascii_iterator" := if_pos ha
    rw [e]; exact Draws.strAscii hh it x t
  · have e : strIterType x = "str_iterator" := if_neg ha
    rw [e]; exact Draws.strWide hh it x t
def EnSt (x : Str) (t : Tok) (e it : Addr) (i : Nat) (h : Heap) : Prop := (∃ old, IsEnum h e it i old) ∧ h.IsStrIter it (strIterType x) x t i
section
variable {v : V} {l : Locs} {G : Led} {nm : Str} {sc : Scope} {d : Nat} {k : Value → Locs → Led → Prop} {pos : Pos} {env : Env}
theorem W_ForEnum {x : Str} {t : Tok} {elts : List Expr} {kk : Nat} {tp : Pos} {iter : Expr} {body rest : List Stmt} {kf : Flow → Locs → Led → Prop} (hv : Ok v nm sc d) (J : Nat → Locs → Prop)
    (hcall : ∀ k, W v (call (.type "enumerate") [.str x t]) l G k → W v (eval iter env) l G k) (j0 : J 0 l)
    (step : ∀ i c u ti l1 Gb T, x.cps[i]? = some c → J i l1 → Sub G Gb → TL Gb T [.int (i : Nat) ti, .str ⟨#[c]⟩ u] → W v (assign (.Tuple elts kk tp) env (.ref T)) l1 Gb fun _ l3 G3 => W v (execs body env) l3 G3 fun f l4 G4 => f = .next ∧ Sub Gb G4 ∧ J (i + 1) l4)
    (done : ∀ l1, J x.cps.size l1 → W v (execs rest env) l1 G kf) (hs : ∀ x, foldedSetIterable iter env x = pure x) : W v (execs (.For (.Tuple elts kk tp) iter body [] pos :: rest) env) l G kf := by
  refine W_stmt fun s Q E F N c => wpAny_For (hcall (fun a l1 G1 => ∃ e it oe oi, a = .ref e ∧ l1 = l ∧ G1 = (e, oe) :: (it, oi) :: G ∧ e ≠ it ∧ (∀ p ∈ G, p.1 ≠ e ∧ p.1 ≠ it) ∧ ∀ h : Heap, h.get? e = some oe → h.get? it = some oi → EnSt x t e it 0 h) ?_ s _ E F N fun xv l1 G1 h1 t1 y F1 N1 => ?_) hs
  · intro s Q E F N c
    refine call_enumerate_str fun h' he hit hsz hk => ?_
    have hit' := hit
    obtain ⟨oi, hoi, ci, di⟩ := hit'
    have F' : Fr v.h₀ v.L h' (ml l) := ⟨F.ns.keeps hk, fun b o e => hk b o (F.keep b o e), F.above⟩
    have nn : ∀ b, s.heap.objs.size ≤ b → v.h₀.get? b = none := fun b hb => Heap.get?_none_of_le (Nat.le_trans F.above (Nat.le_trans (Nat.le_of_lt F.ns.lt) hb))
    refine c _ l _ h' s.toks ⟨_, _, _, oi, rfl, rfl, rfl, Nat.succ_ne_self _, fun p hp => ⟨Nat.ne_of_lt (Nat.lt_succ_of_lt (Heap.lt_size (N p hp).1)), Nat.ne_of_lt (Heap.lt_size (N p hp).1)⟩, fun h e1 e2 => ⟨⟨.none, e1⟩, oi, e2, ci, di⟩⟩ F' fun p hp => ?_
    rcases List.mem_cons.mp hp with rfl | hp
    · exact ⟨he, Nat.ne_of_gt (Nat.lt_succ_of_lt F.ns.lt), nn _ (Nat.le_succ _)⟩
    rcases List.mem_cons.mp hp with rfl | hp
    · exact ⟨hoi, Nat.ne_of_gt F.ns.lt, nn _ (Nat.le_refl _)⟩
    · exact ⟨hk _ _ (N p hp).1, (N p hp).2⟩
  obtain ⟨e, it, oe, oi, rfl, el, eG, hei, hG, st0⟩ := y
  rw [el] at F1
  rw [eG] at N1
  have Wk := WalksT.enumerateD (strDraws (w := v.w) (A := v.A.in1) hv.hh it x t) e hei (by simpa using hei) (by simp)
  have Ne := N1 (e, oe) (.head _)
  have Ni := N1 (it, oi) (.tail _ (.head _))
  have NG : News v.h₀ v.L h1 G := fun p hp => N1 p (.tail _ (.tail _ hp))
  have st := st0 h1 Ne.1 Ni.1
  refine Wk.self 0 _ _ _ st ?_
  refine codeAny_forLoop_any (fun m s' => ∃ i l1 h tk, s' = { s with heap := h, toks := tk } ∧ i ≤ x.cps.size ∧ m = x.cps.size - i ∧ J i l1 ∧ EnSt x t e it i h ∧ Fr v.h₀ v.L h (ml l1) ∧ News v.h₀ v.L h G) ?_ (x.cps.size - 0) ⟨0, l, h1, t1, rfl, Nat.zero_le _, rfl, j0, st, F1, NG⟩
  rintro m s' ⟨i, l1, h, tk, rfl, hi, rfl, hJ, hst, F, N⟩
  have fr : ∀ {h h' : Heap} {l1 : Locs}, Fr v.h₀ v.L h (ml l1) → News v.h₀ v.L h G → (∀ b o, b ∉ [e, it] → h.get? b = some o → h'.get? b = some o) → Fr v.h₀ v.L h' (ml l1) ∧ News v.h₀ v.L h' G := by
    intro h h' l1 F N k
    have ne : ∀ b, b ≠ e → b ≠ it → b ∉ [e, it] := fun b h1 h2 hm => by
      rcases List.mem_cons.mp hm with q | hm
      · exact h1 q
      · exact h2 (by simpa using hm)
    obtain ⟨oL, es, ep, hL, r⟩ := F.ns
    refine ⟨⟨⟨oL, es, ep, k _ _ (ne _ (Ne.2.1).symm (Ni.2.1).symm) hL, r⟩, fun b o q => k b o (ne b ?_ ?_) (F.keep b o q), F.above⟩, fun p hp => ⟨k _ _ (ne _ (hG p hp).1 (hG p hp).2) (N p hp).1, (N p hp).2⟩⟩
    · rintro rfl; rw [Ne.2.2] at q; cases q
    · rintro rfl; rw [Ni.2.2] at q; cases q
  rcases Nat.lt_or_ge i x.cps.size with hlt | hge
  · refine Wk.item i { s with heap := h, toks := tk } _ _ hlt hst fun T vals h' tk' hP hT hTup hM hk => ?_
    obtain ⟨ti, cv, ⟨cc, u, hc, rfl⟩, rfl⟩ := hP
    obtain ⟨F', N'⟩ := fr F N hk
    have hTL : T ≠ v.L := Nat.ne_of_gt (Nat.lt_of_lt_of_le F.ns.lt hT)
    have hT0 : v.h₀.get? T = none := Heap.get?_none_of_le (Nat.le_trans F.above (Nat.le_trans (Nat.le_of_lt F.ns.lt) hT))
    have hTw := Wk.apart i T h' hM
    refine Wk.go elts kk tp i T { s with heap := h', toks := tk' } _ _ hM fun h'' hst' hk' => ?_
    obtain ⟨F2, N2⟩ := fr F' N' hk'
    obtain ⟨oT, hoT, cT, nT, dT⟩ := hTup
    have hoT' := hk' T oT hTw hoT
    obtain ⟨⟨old, hen⟩, hsi⟩ := hst'
    obtain ⟨oi2, hoi2, ci2, di2⟩ := id hsi
    have N3 : News v.h₀ v.L h'' ((T, oT) :: (e, _) :: (it, oi2) :: G) := fun p hp => by
      rcases List.mem_cons.mp hp with rfl | hp
      · exact ⟨hoT', hTL, hT0⟩
      rcases List.mem_cons.mp hp with rfl | hp
      · exact ⟨hen, Ne.2⟩
      rcases List.mem_cons.mp hp with rfl | hp
      · exact ⟨hoi2, Ni.2⟩
      · exact N2 p hp
    refine step i cc u ti l1 _ T hc hJ (fun p hp => .tail _ (.tail _ (.tail _ hp))) ⟨oT, .head _, cT, nT, dT⟩ { s with heap := h'', toks := tk' } _ _ F2 N3 fun _ l3 G3 h3 t3 y3 F3 N4 => ?_
    refine y3 { s with heap := h3, toks := t3 } _ _ F3 N4 fun f l4 G4 h4 t4 y4 F4 N5 => ?_
    obtain ⟨rfl, sb, hj⟩ := y4
    refine ⟨x.cps.size - (i + 1), by omega, i + 1, l4, h4, t4, rfl, hlt, rfl, hj, ⟨⟨old, ?_⟩, oi2, ?_, ci2, di2⟩, F4, fun p hp => N5 p (sb _ (.tail _ (.tail _ (.tail _ hp))))⟩
    · exact (N5 _ (sb _ (.tail _ (.head _)))).1
    · exact (N5 _ (sb _ (.tail _ (.tail _ (.head _))))).1
  · have e1 : i = x.cps.size := Nat.le_antisymm hi hge
    subst e1
    refine Wk.done { s with heap := h, toks := tk } _ _ hst fun h' tk' hk => ?_
    obtain ⟨F', N'⟩ := fr F N hk
    exact wpAny_pure (c .next l1 G h' tk' (done l1 hJ) F' N')
end
set_option compiler.extract_closed false
local macro_rules | `(tactic| wtm_at "M") => `(tactic| first | assumption | exact List.mem_of_elem_eq_true (by kernel_rfl))
local macro_rules | `(tactic| wtm_at "G") => `(tactic| first | exact glsort_of _ | exact glshow _ | exact gl_law_take _ | exact glText _ | exact glListThing _ | exact glTableThing _ | exact glRangeThing _ | exact glErrorThing _ | exact glModuleThing _ | exact glSIMPLE_ESCAPES _ | exact glOPERATORS _ | exact glMODULES _ | exact glBUILTINS _ | exact glMIXED _ | exact glsame _ | exact glcode_of _ | exact glis_word _ | exact glis_label _ | exact glis_plain_symbol _ | exact glfull_name _ | exact glshow_letter _ | exact glshow_text _ | exact glshow_symbol _ | exact glshow_pair _ | exact glshow_range _ | exact glshow_thing _ | exact glshow_error _ | exact glshow_raised _ | exact glresult_of _ | exact gl_law_box _ | exact gl_law_quoted _ | exact gl_law_word _ | exact gl_law_key _ | exact gl_law_value _ | exact gl_law_error _ | exact glThing _ | exact glProcThing _ | exact glResult _ | exact glWorld _)
local macro_rules | `(tactic| wtm_at "GB") => `(tactic| first | exact gb_isinstance | exact gb_len | exact gb_ord | exact gb_abs | exact gb_bool | exact gb_int | exact gb_str | exact gb_range | exact gb_enumerate | exact gb_list | exact gb_tuple)
local macro_rules | `(tactic| wtm_at "Z") => `(tactic| first | (rw [sizeLine_eq]; first | omega | exact Nat.le_of_ble_eq_true (by with_unfolding_all rfl)) | omega)
local macro_rules | `(tactic| wtm_at "SV") => `(tactic| repeat (first | exact StrsV.nil | apply StrsV.cons))
local macro_rules | `(tactic| wtm_at "L") => `(tactic| first | exact look_hd | assumption | (refine look_tl ?_ (by kernel_rfl); wtm_at "L"))
local macro_rules | `(tactic| wtm_at "E") => `(tactic| first | assumption | exact List.mem_cons_self | (apply List.mem_cons_of_mem; wtm_at "E"))
local macro_rules | `(tactic| wtm_at "N") => `(tactic| first
  | refine W_local (by assumption) (by wtm_at "L") (by kernel_rfl) ?_
  | refine W_glob (by assumption) (by wtm_at "G") (by kernel_rfl) ?_
  | refine W_builtin (by assumption) (by kernel_rfl) (by wtm_at "GB") (by kernel_rfl) ?_
  | refine W_cell (by assumption) (by assumption) (by wtm_at "E") (by assumption) (by kernel_rfl) ?_)
local macro_rules | `(tactic| wtm_at "SF") => `(tactic| first | exact SetF.hd | exact SetF.nil | (apply SetF.tl; (focus kernel_rfl); wtm_at "SF"))
local macro_rules | `(tactic| wtm_at "B") => `(tactic| first | assumption | (apply But.cons; wtm_at "B") | exact But.rfl)
local macro_rules | `(tactic| wtm_at "S") => `(tactic| first | exact Sub.rfl | assumption | (refine Sub.trans ?_ Sub.cons; wtm_at "S"))
local macro_rules | `(tactic| wtm_at "A") => `(tactic| with_reducible first | assumption | exact Ty.none | exact Ty.bool | exact Ty.int | exact Ty.str | exact Has.sub (by assumption) (by wtm_at "S") | exact IG.sub (by assumption) (by wtm_at "S") | exact Has.ty (by assumption) | exact Ty.inst (by assumption) | exact (Has.sub (by assumption) (by wtm_at "S")).ty)
local macro_rules | `(tactic| wtm_at "Nc") => `(tactic| first
  | refine W_clocal (by assumption) (by wtm_at "L") ?_ (by rfl) (by kernel_rfl) (by kernel_rfl)
  | refine W_cglob (by assumption) (by wtm_at "G") ?_ (by rfl) (by kernel_rfl) (by kernel_rfl)
  | refine W_ccell lookA_hd (by assumption) (by assumption) ?_ (by rfl) (by kernel_rfl) (by kernel_rfl))
local macro_rules | `(tactic| wtm_at "We") => `(tactic| first
  | (show W _ (eval (.Name _ _) (compEnvC _ _ _ _)) _ _ _; wtm_at "Nc")
  | (show W _ (eval (.Name _ _) _) _ _ _; wtm_at "N")
  | (show W _ (eval (.Attribute _ _ _) _) _ _ _; refine W_Attribute ?_ (by kernel_rfl))
  | refine W_CallName ?_
  | (show W _ (eval (.Call (.Attribute _ _ _) _ _ _) _) _ _ _; refine W_CallMeth ?_ (by kernel_rfl))
  | (refine W_str ?_; intro _)
  | (refine W_int ?_; intro _)
  | refine W_none ?_
  | refine W_bool ?_
  | refine W_BinOp ?_
  | (show W _ (eval (.Compare _ _ _ _) _) _ _ _; refine W_Compare1 ?_ (by kernel_rfl))
  | (show W _ (eval (.Subscript _ (.Slice _ _ _ _) _) _) _ _ _; first
     | refine W_slice_ss ?_ (by intros; with_unfolding_all rfl) (by intros; with_unfolding_all rfl)
     | refine W_slice_sn ?_ (by intros; with_unfolding_all rfl) (by intros; with_unfolding_all rfl)
     | refine W_slice_ns ?_ (by intros; with_unfolding_all rfl) (by intros; with_unfolding_all rfl))
  | refine W_Sub ?_
  | refine W_IfExp ?_
  | (show W _ (eval (.Tuple _ _ _) _) _ _ _; refine W_Tuple ?_ (by kernel_rfl))
  | (show W _ (eval (.List _ _) _) _ _ _; refine W_List ?_ (by kernel_rfl))
  | refine W_UnaryOp ?_
  | refine W_orV ?_
  | (show W _ (eval (.Dict _ _ _) _) _ _ _; refine W_Dict0 (by assumption) fun _ _ _ _ _ => ?_))
local macro_rules | `(tactic| wtm_at "Wx") => `(tactic| first
  | refine W_If ?_
  | refine W_ret ?_
  | (show W _ (execs (.Assign [.Name _ _] _ _ :: _) _) _ _ _; refine W_Assign ?_ (hs := by kernel_rfl))
  | (show W _ (execs (.Assign [.Attribute _ _ _] _ _ :: _) _) _ _ _; refine W_AssignAttr ?_ (hs := by kernel_rfl))
  | (show W _ (execs (.Assign [.Subscript _ _ _] _ _ :: _) _) _ _ _; refine W_AssignSub ?_ (hs := by kernel_rfl))
  | (show W _ (execs (.Expr _ _ :: _) _) _ _ _; refine W_Expr ?_ (hi := by kernel_rfl) (hs := by kernel_rfl))
  | refine W_nil ?_
  | refine W_AugAttr ?_)
local macro_rules | `(tactic| wtm_at "Wt") => `(tactic| first
  | (show W _ (PySem.isTrue (.Compare _ [_] [_] _) _ _) _ _ _; refine W_isTrue_Compare1 ?_ (by kernel_rfl))
  | refine W_isTrue_Not ?_
  | refine W_isTrue_And ?_
  | refine W_isTrue_Or ?_
  | (show W _ (PySem.isTrue (.Compare _ _ _ _) _ _) _ _ _; refine W_isTrue_chain ?_ (by kernel_rfl))
  | refine W_isTrue_plain ?_ (by kernel_rfl))
local macro_rules | `(tactic| wtm_at "Wo") => `(tactic| first
  | refine W_isNone ?_
  | refine W_isNotNone ?_
  | refine W_eqs ?_
  | refine W_nes ?_
  | refine W_eq ?_
  | refine W_ne ?_
  | refine W_lt ?_
  | refine W_gt ?_
  | refine W_le ?_
  | refine W_ge ?_
  | refine W_in_str ?_
  | (show W _ (compareOp .In _ _) _ _ _; refine W_in_tuple (by assumption) (by wtm_at "SV") ?_))
local macro_rules | `(tactic| wtm_at "Wb") => `(tactic| first
  | (show W _ (binaryOp .Add (.str _ _) (.str _ _)) _ _ _; refine W_adds (by wtm_at "Z") ?_; intro _)
  | (refine W_add ?_; intro _)
  | (refine W_sub ?_; intro _))
local macro_rules | `(tactic| wtm_at "Wc") => `(tactic| first
  | (show W _ (callWith _ (.builtin _) _ _ _) _ _ _; first | refine W_callB0 ?_ (by kernel_rfl) | refine W_callB1 ?_ (by kernel_rfl))
  | (show W _ (callWith _ (.ref _) _ _ _) _ _ _; first | refine W_callR0 (by assumption) ?_ (by kernel_rfl) (by kernel_rfl) | refine W_callR1 (by assumption) ?_ (by kernel_rfl) (by kernel_rfl))
  | refine W_callT0 ?_ (by kernel_rfl))
local macro_rules | `(tactic| wtm_at "Wk") => `(tactic| first
  | (show W _ (call (.builtin "isinstance") _) _ _ _; refine W_is (by assumption) (by wtm_at "A") (by wtm_at "M") (by wtm_at "M") ?_)
  | refine W_isalnum ?_
  | refine W_isdigit ?_
  | (show W _ (call (.builtin "len") [.str _ _]) _ _ _; refine W_len_str (by wtm_at "Z") ?_; intro _)
  | (show W _ (call (.builtin "ord") _) _ _ _; refine W_ord (by with_unfolding_all rfl) ?_; intro _))
local macro_rules | `(tactic| wtm_at "Wi") => `(tactic| first
  | refine itT (b := true) (by rfl) ?_
  | refine itF (b := false) (by rfl) ?_
  | refine itNot ?_
  | refine itT (b := isNone _) (by with_unfolding_all rfl) ?_
  | refine itF (b := isNone _) (by with_unfolding_all rfl) ?_
  | refine itT (b := isiB _ _) (by with_unfolding_all rfl) ?_
  | refine itF (b := isiB _ _) (by with_unfolding_all rfl) ?_
  | refine itT (b := (_ : Str) == _) (by with_unfolding_all rfl) ?_
  | refine itF (b := (_ : Str) == _) (by with_unfolding_all rfl) ?_
  | refine itT (b := (_ : Str) != _) (by with_unfolding_all rfl) ?_
  | refine itF (b := (_ : Str) != _) (by with_unfolding_all rfl) ?_)
local macro_rules | `(tactic| wtm_at "Wm") => `(tactic| first
  | refine W_m_isalnum ?_
  | refine W_m_isdigit ?_
  | refine W_m_join ?_)
local macro_rules | `(tactic| wtm_at "Wr") => `(tactic| first
  | (show W _ (eval _ _) _ _ _; wtm_at "We")
  | (show W _ (execs _ _) _ _ _; wtm_at "Wx")
  | (show W _ (PySem.isTrue _ _ _) _ _ _; wtm_at "Wt")
  | refine W_truthy_bool ?_
  | (show Args _ _ (_ :: _) _ _ _; with_unfolding_all show W _ (eval _ _) _ _ (ArgK _ _ _ _))
  | (show Args _ _ [] _ _ _; refine Args_nil ?_)
  | (show W _ (callWith _ _ _ _ _) _ _ _; wtm_at "Wc")
  | (show W _ (call _ _) _ _ _; wtm_at "Wk")
  | (refine it_I ?_; wtm_at "Wi")
  | refine Nx_next ?_
  | refine Nx_ret ?_
  | (show W _ (compareOp _ _ _) _ _ _; wtm_at "Wo")
  | (show W _ (binaryOp _ _ _) _ _ _; wtm_at "Wb")
  | (show W _ (getMethod _ _ _) _ _ _; wtm_at "Wm")
  | (show W _ (getAttr _ _ _) _ _ _; first
     | refine W_fieldH (by assumption) (by wtm_at "A") (by kernel_rfl) (by wtm_at "L") (by with_unfolding_all rfl) ?_
     | refine W_field (by assumption) (by wtm_at "A") (by kernel_rfl) (by wtm_at "L") (by with_unfolding_all rfl) ?_)
  | (show W _ (setAttr _ _ _) _ _ _; refine W_setfieldB (by assumption) (by wtm_at "A") (by wtm_at "B") (by first | assumption | kernel_rfl) (by wtm_at "SF") (by exact Nat.le_of_ble_eq_true (by with_unfolding_all rfl)) fun _ _ _ => ?_)
  | refine W_asgName ?_
  | (show W _ (storeName _ _ _) _ _ _; refine W_store (by assumption) ?_ (by kernel_rfl))
  | refine W_allAnd ?_
  | refine W_allOr ?_
  | refine W_allAnd_nil ?_
  | refine W_allOr_nil ?_
  | refine W_truthy_none ?_
  | (show W _ (newTuple _) _ _ _; refine W_newTuple (by wtm_at "Z") fun _ _ _ _ => ?_)
  | (show W _ (newList _) _ _ _; refine W_newList (by wtm_at "Z") fun _ _ _ _ => ?_)
  | refine W_test_link ?_
  | (refine W_iadd ?_; intro _)
  | (refine W_neg ?_; intro _))
local macro_rules | `(tactic| wtm_at "W") => `(tactic| first
  | with_reducible wtm_at "Wr"
  | (refine ⟨_, _, _, _, _, _, rfl, rfl, rfl, by wtm_at "Z", fun _ => ?_⟩)
  | (refine ⟨_, _, _, _, rfl, rfl, by wtm_at "Z", fun _ => ?_⟩)
  | fail)
theorem kf_237 (P) : (K P).lookup 237 = some (k237 P) := by kernel_rfl
theorem kf_257 (P) : (K P).lookup 257 = some (k257 P) := by kernel_rfl
section
variable {v : V} {l : Locs} {G : Led} {nm : Str} {sc : Scope} {d : Nat} {k : Value → Locs → Led → Prop} {pos : Pos} {env : Env}
theorem sort_of_spec {u : Value} {t : Value} (hv : Ok v nm sc (d + 1)) (T : Ty G u t) (ht : t ∈ tysC) (h : ∀ tk, k (.str (sortV u) tk) l G) : C v (.call (.ref 237) ⟨[u], []⟩) l G k := by
  refine C_fnP hv (kf_237 _) (by kernel_rfl) [("value", u)] (fun S => by kernel_rfl) (by kernel_rfl) fun v' hv' hw => ?_
  refine W_If ?_
  cases T with
  | inst I =>
    repeat' wtm_at "W"
    exact ⟨G, Sub.rfl, h _⟩
  | list I => simp [tysC, clsC] at ht
  | _ => repeat' wtm_at "W"
         exact ⟨G, Sub.rfl, h _⟩
/-- is_word's answer -/
def wordLet (c : Nat) : Bool := Txt.isalnum ⟨#[c]⟩ || (⟨#[c]⟩ : Str) == "_"
def isWord (x : Str) : Bool := match x.cps.toList with
  | [] => false
  | c :: r => !Txt.isdigit ⟨#[c]⟩ && (c :: r).all wordLet
theorem is_word_spec {x : Str} {t : Tok} (hv : Ok v nm sc (d + 1)) (h : k (.bool (isWord x)) l G) : C v (.call (.ref 257) ⟨[.str x t], []⟩) l G k := by
  refine C_fnP hv (kf_257 _) (by kernel_rfl) [("text", .str x t)] (fun S => by kernel_rfl) (by kernel_rfl) fun v' hv' hw => ?_
  have hx : x = ⟨x.cps.toList.toArray⟩ := by cases x; simp
  cases hc : x.cps.toList with
  | nil =>
    have e : (x == "") = true := by rw [hx, hc]; rfl
    have e2 : isWord x = false := by unfold isWord; rw [hc]
    rw [e2] at h
    refine W_If ?_
    repeat' wtm_at "W"
    refine itT e ?_
    repeat' wtm_at "W"
    exact ⟨G, Sub.rfl, h⟩
  | cons c r =>
    have e : (x == "") = false := by rw [hx, hc]; rfl
    have e2 : isWord x = (!Txt.isdigit ⟨#[c]⟩ && (c :: r).all wordLet) := by unfold isWord; rw [hc]
    rw [e2] at h
    refine W_If ?_
    repeat' wtm_at "W"
    refine itF e ?_
    repeat' wtm_at "W"
    have h0 : x.cps[0]? = some c := by rw [← Array.getElem?_toList, hc]; rfl
    refine W_sub_str (c := c) (by decide) (by decide) h0 (fun _ => ?_) rfl
    repeat' wtm_at "W"
    cases hd : Txt.isdigit ⟨#[c]⟩ with
    | true =>
      repeat' wtm_at "W"
      rw [hd] at h
      exact ⟨G, Sub.rfl, h⟩
    | false =>
      repeat' wtm_at "W"
      rw [hd] at h
      refine W_For (nm := "is_word") (sc := fscope (topS 17)) ?_ hv' (fun _ => by rfl)
      repeat' wtm_at "W"
      refine W_iter_str hv' fun I o lt T => ?_
      refine ⟨I, _, _, _, fun i l' G' => Sub G G' ∧ ∀ j < i, ∀ c', x.cps[j]? = some c' → wordLet c' = true, rfl, T, ⟨Sub.cons, fun j hj => nomatch hj⟩, fun i l' G' G'' J b => ⟨J.1.butI b lt, J.2⟩, ?_, ?_⟩
      · rintro i a l' G' hi ⟨c', u, hc', rfl⟩ ⟨sb, J⟩ T'
        repeat' wtm_at "W"
        have fin : wordLet c' = true → ∀ j < i + 1, ∀ c'', x.cps[j]? = some c'' → wordLet c'' = true := fun hw j hj c'' e => by
          rcases Nat.lt_or_eq_of_le (Nat.le_of_lt_succ hj) with q | rfl
          · exact J j q c'' e
          · rw [hc'] at e; cases e; exact hw
        have bad : wordLet c' = false → (c :: r).all wordLet = false := fun hw => by
          refine List.all_eq_false.mpr ⟨c', ?_, by simp [hw]⟩
          rw [← hc]
          rw [← Array.getElem?_toList] at hc'
          exact List.mem_of_getElem? hc'
        cases ha : Txt.isalnum ⟨#[c']⟩ with
        | true =>
          repeat' wtm_at "W"
          exact ⟨⟨sb, fin (by unfold wordLet; rw [ha]; rfl)⟩, T'⟩
        | false =>
          repeat' wtm_at "W"
          cases hb : ((⟨#[c']⟩ : Str) == "_") with
          | true =>
            repeat' wtm_at "W"
            exact ⟨⟨sb, fin (by unfold wordLet; rw [ha, hb]; rfl)⟩, T'⟩
          | false =>
            repeat' wtm_at "W"
            rw [bad (by unfold wordLet; rw [ha, hb]; rfl)] at h
            exact ⟨G, sb, h⟩
      · rintro l' G' ⟨sb, J⟩
        repeat' wtm_at "W"
        refine ⟨G, sb, ?_⟩
        have : (c :: r).all wordLet = true := by
          rw [← hc, List.all_eq_true]
          intro c' hc'
          obtain ⟨j, hj, e⟩ := List.mem_iff_getElem.mp hc'
          exact J j (by simpa using hj) c' (by rw [← Array.getElem?_toList, List.getElem?_eq_getElem hj, e])
        rw [this] at h
        exact h
end
theorem kf_264 (P) : (K P).lookup 264 = some (k264 P) := by kernel_rfl
theorem kf_271 (P) : (K P).lookup 271 = some (k271 P) := by kernel_rfl
theorem kf_23 (P) : (K P).lookup 23 = some (k23 P) := by kernel_rfl
theorem kf_22 (P) : (K P).lookup 22 = some (k22 P) := by kernel_rfl
def strsB : List Value → List Str → Bool
  | [], [] => true
  | .str x _ :: vs, y :: ys => x == y && strsB vs ys
  | _, _ => false
theorem strsV_of : ∀ {vs : List Value} {xs : List Str}, strsB vs xs = true → StrsV vs xs
  | [], [], _ => .nil
  | .str x _ :: vs, y :: ys, h => by
    unfold strsB at h
    rw [Bool.and_eq_true] at h
    have := eq_of_beq h.1
    subst this
    exact .cons (strsV_of h.2)
def seqOf (o : Obj) : List Value := match o.data with
  | .seq a _ => a.toList
  | _ => []
def opsL : List Str := ["+", "-", "*", "/", "%", "**", "==", "!=", "<", ">", "<=", ">=", "<=>", "===", "[]", "[]=", "<<", ">>", "!", "~", "+@", "-@", "&", "|", "^", "=~", "!~"]
theorem ops_strs (P) : StrsV (seqOf (k23 P)) opsL := strsV_of (by kernel_rfl)
def cutLast (x : Str) (es : List Str) : Str := if es.any (· == Txt.slice x (some (-1)) none) then Txt.slice x none (some (-1)) else x
def isLabel (x : Str) : Bool := isWord (cutLast x ["?", "!"])
def isPlain (x : Str) : Bool := if opsL.any (· == x) then true else if Txt.slice x none (some 2) == "@@" then isWord (Txt.slice x (some 2) none) else if (["@", "$"] : List Str).any (· == Txt.slice x none (some 1)) then isWord (Txt.slice x (some 1) none) else isWord (cutLast x ["?", "!", "="])
section
variable {v : V} {l : Locs} {G : Led} {nm : Str} {sc : Scope} {d : Nat} {k : Value → Locs → Led → Prop} {pos : Pos} {env : Env}
theorem is_label_spec {x : Str} {t : Tok} (hv : Ok v nm sc (d + 2)) (hx : x.length ≤ 1000) (h : k (.bool (isLabel x)) l G) : C v (.call (.ref 264) ⟨[.str x t], []⟩) l G k := by
  refine C_fnP hv (kf_264 _) (by kernel_rfl) [("name", .str x t)] (fun S => by kernel_rfl) (by kernel_rfl) fun v' hv' hw => ?_
  refine W_ret ?_
  repeat' wtm_at "W"
  unfold isLabel cutLast at h
  split
  · rename_i e
    rw [if_pos e] at h
    repeat' wtm_at "W"
    exact W_call (is_word_spec hv' ⟨G, fun _ m => .tail _ m, h⟩)
  · rename_i e
    rw [if_neg e] at h
    repeat' wtm_at "W"
    exact W_call (is_word_spec hv' ⟨G, fun _ m => .tail _ m, h⟩)
theorem is_plain_spec {x : Str} {t : Tok} (hv : Ok v nm sc (d + 2)) (hx : x.length ≤ 1000) (h : k (.bool (isPlain x)) l G) : C v (.call (.ref 271) ⟨[.str x t], []⟩) l G k := by
  refine C_fnP hv (kf_271 _) (by kernel_rfl) [("name", .str x t)] (fun S => by kernel_rfl) (by kernel_rfl) fun v' hv' hw => ?_
  refine W_If ?_
  repeat' wtm_at "W"
  unfold isPlain cutLast at h
  refine W_in_K hv' (kf_23 _) (by rfl) (by rfl) (ops_strs v'.w.params) ?_
  repeat' wtm_at "W"
  split
  · rename_i e
    rw [if_pos e] at h
    repeat' wtm_at "W"
    exact ⟨G, Sub.rfl, h⟩
  rename_i e
  rw [if_neg e] at h
  repeat' wtm_at "W"
  split
  · rename_i e
    rw [if_pos e] at h
    repeat' wtm_at "W"
    exact W_call (is_word_spec hv' ⟨G, Sub.rfl, h⟩)
  rename_i e
  rw [if_neg e] at h
  repeat' wtm_at "W"
  split
  · rename_i e
    rw [if_pos e] at h
    repeat' wtm_at "W"
    exact W_call (is_word_spec hv' ⟨G, Sub.cons, h⟩)
  rename_i e
  rw [if_neg e] at h
  repeat' wtm_at "W"
  split
  · rename_i e
    rw [if_pos e] at h
    repeat' wtm_at "W"
    exact W_call (is_word_spec hv' ⟨G, fun _ m => .tail _ (.tail _ m), h⟩)
  · rename_i e
    rw [if_neg e] at h
    repeat' wtm_at "W"
    exact W_call (is_word_spec hv' ⟨G, fun _ m => .tail _ (.tail _ m), h⟩)
end
theorem kf_285 (P) : (K P).lookup 285 = some (k285 P) := by kernel_rfl
theorem kf_290 (P) : (K P).lookup 290 = some (k290 P) := by kernel_rfl
theorem kf_297 (P) : (K P).lookup 297 = some (k297 P) := by kernel_rfl
def rowsB : List DRow → List (Str × Str) → Bool
  | [], [] => true
  | (x, _, .str y _) :: vs, (x', y') :: ys => x == x' && y == y' && rowsB vs ys
  | _, _ => false
theorem vAt_strs (x : Str) : ∀ {rows : List DRow} {L : List (Str × Str)}, rowsB rows L = true → (L.lookup x = none ∧ valueAt (rows.map fun r => (r.1, r.2.2)) x = none) ∨ ∃ y t, L.lookup x = some y ∧ valueAt (rows.map fun r => (r.1, r.2.2)) x = some (.str y t)
  | [], [], _ => .inl ⟨rfl, rfl⟩
  | (x₀, _, .str y t) :: vs, (x', y') :: ys, h => by
    unfold rowsB at h
    simp only [Bool.and_eq_true, beq_iff_eq] at h
    obtain ⟨⟨rfl, rfl⟩, h⟩ := h
    have ih := vAt_strs x h
    unfold valueAt at ih ⊢
    rw [List.map_cons, List.find?_cons, List.lookup_cons]
    dsimp only
    by_cases e : x₀ = x
    · subst e
      exact .inr ⟨y, t, by simp, by simp⟩
    · rw [decide_eq_false e, show (x == x₀) = false by simpa using fun q => e q.symm]
      exact ih
def escL : List (Str × Str) := [("\\", "\\\\"), ("\"", "\\\""), ("\n", "\\n"), ("\t", "\\t"), ("\x0d", "\\r"), ("\x1b", "\\e"), ("\x07", "\\a"), ("\x08", "\\b"), ("\x0b", "\\v"), ("\x0c", "\\f"), ("\x7f", "\\x7F")]
def rows22 (P : Params) : List DRow := match (k22 P).data with
  | .dict es _ => es.toList.map fun e => match e.key with
    | .str x t => (x, t, e.val)
    | _ => ("", 0, .none)
  | _ => []
def ch (c : Nat) : Str := ⟨#[c]⟩
def letS (c : Nat) (f : Str) : Str := match escL.lookup (ch c) with
  | some y => y
  | none => if ch c == "#" then (if (["{", "$", "@"] : List Str).any (· == f) then "\\#" else ch c) else ch c
def okC (c : Nat) : Bool := (escL.lookup (ch c)).isSome || (decide (32 ≤ c) && decide (c < 127))
theorem letS_len (c : Nat) (f : Str) : (letS c f).length ≤ 4 := by
  have gen : ∀ L : List (Str × Str), (∀ p ∈ L, p.2.length ≤ 4) → ∀ x y, L.lookup x = some y → y.length ≤ 4 := by
    intro L
    induction L with
    | nil => intro _ x y h; cases h
    | cons p r ih =>
      intro hp x y h
      rw [List.lookup_cons] at h
      split at h
      · cases h; exact hp p (.head _)
      · exact ih (fun q hq => hp q (.tail _ hq)) x y h
  unfold letS
  split
  · rename_i y e
    exact gen escL (by decide) _ _ e
  · split
    · split
      · decide
      · exact (by decide : 1 ≤ 4)
    · exact (by decide : 1 ≤ 4)
theorem sum_le (n : Nat) : ∀ (l : List Str), (∀ z ∈ l, z.length ≤ n) → (l.map (·.length)).sum ≤ n * l.length
  | [], _ => Nat.zero_le _
  | a :: r, h => by
    have := sum_le n r fun z hz => h z (.tail _ hz)
    have h2 := h a (.head _)
    rw [List.map_cons, List.sum_cons, List.length_cons, Nat.mul_succ]
    omega
theorem str_append_len (a b : Str) : (a ++ b).length = a.length + b.length := by
  show (a.cps ++ b.cps).size = _
  exact Array.size_append
theorem join_len (g : Str) (xs : List Str) : (Txt.join g xs).length ≤ (xs.map (·.length)).sum + xs.length * g.length := by
  have gen : ∀ (l : List Str) (a : Array Nat), (l.foldl (fun acc p => acc ++ g.cps ++ p.cps) a).size = a.size + (l.map (·.length)).sum + l.length * g.length := by
    intro l
    induction l with
    | nil => intro a; simp
    | cons p r ih =>
      intro a
      rw [List.foldl_cons, ih, Array.size_append, Array.size_append, List.map_cons, List.sum_cons, List.length_cons, Nat.succ_mul]
      show a.size + g.length + p.length + _ + _ = _
      omega
  show ((xs.drop 1).foldl (fun acc p => acc ++ g.cps ++ p.cps) (xs.headD Str.empty).cps).size ≤ _
  rw [gen]
  cases xs with
  | nil => exact Nat.le_of_eq (by rfl)
  | cons x r =>
    show x.length + (r.map (·.length)).sum + r.length * g.length ≤ _
    rw [List.map_cons, List.sum_cons, List.length_cons, Nat.succ_mul]
    omega
theorem join0_len (xs : List Str) : (Txt.join "" xs).length ≤ (xs.map (·.length)).sum := join_len "" xs
section
variable {v : V} {l : Locs} {G : Led} {nm : Str} {sc : Scope} {d : Nat} {k : Value → Locs → Led → Prop} {pos : Pos} {env : Env}
theorem dd22 {v : V} {nm : Str} {sc : Scope} {k : Nat} {G : Led} (hv : Ok v nm sc k) : ∃ rows : List DRow, rowsB rows escL = true ∧ DD v.w v G 22 (rows.map fun r => (r.1, r.2.2)) :=
  ⟨_, by kernel_rfl, kdd hv rfl (kf_22 _) (by rfl) (by decide)⟩
theorem show_letter_spec {c : Nat} {f : Str} {t u : Tok} (hv : Ok v nm sc (d + 1)) (hc : okC c = true) (h : ∀ t, k (.str (letS c f) t) l G) : C v (.call (.ref 285) ⟨[.str (ch c) t, .str f u], []⟩) l G k := by
  refine C_fnP hv (kf_285 _) (by kernel_rfl) [("follower", .str f u), ("letter", .str (ch c) t)] (fun S => by kernel_rfl) (by kernel_rfl) fun v' hv' hw => ?_
  refine W_If ?_
  repeat' wtm_at "W"
  obtain ⟨rows, hr, D⟩ := dd22 (G := G) hv'
  refine W_din rfl D ?_
  repeat' wtm_at "W"
  unfold letS at h
  unfold okC at hc
  rcases vAt_strs (ch c) hr with ⟨e1, e2⟩ | ⟨y, t', e1, e2⟩
  · rw [e1] at h hc
    rw [e2]
    simp only [Option.isSome_none, Bool.false_or, Bool.and_eq_true, decide_eq_true_eq] at hc
    dsimp only at h
    with_reducible refine itF (by with_unfolding_all rfl) ?_
    have tail : ∀ G1, Sub G G1 → (∀ t, k (.str (ch c) t) l G) → W v' (execs (List.drop 2 (fbody (topS 21))) (v'.env "show_letter" (fscope (topS 21)))) [("follower", .str f u), ("letter", .str (ch c) t)] G1 fun fl _ G' => ∃ G2, Sub G2 G' ∧ k (retV fl) l G2 := fun G1 sb h => by
      refine W_Assign (x := "number") ?_ (hs := by kernel_rfl)
      repeat' wtm_at "W"
      have e3 : decide (((ch c).cps.getD 0 0 : Nat) < (32 : Int)) = false := decide_eq_false (by show ¬ ((c : Nat) : Int) < 32; omega)
      have e4 : decide ((127 : Int) < ((ch c).cps.getD 0 0 : Nat)) = false := decide_eq_false (by show ¬ (127 : Int) < ((c : Nat) : Int); omega)
      refine itF e3 ?_
      repeat' wtm_at "W"
      refine itF e4 ?_
      repeat' wtm_at "W"
      exact ⟨G, sb, h _⟩
    repeat' wtm_at "W"
    split
    · rename_i e
      rw [if_pos e] at h
      repeat' wtm_at "W"
      split
      · rename_i e
        rw [if_pos e] at h
        repeat' wtm_at "W"
        exact ⟨G, Sub.cons, h _⟩
      · rename_i e
        rw [if_neg e] at h
        repeat' wtm_at "Wi"
        refine W_nil ?_
        refine Nx_next ?_
        exact tail _ Sub.cons h
    · rename_i e
      rw [if_neg e] at h
      repeat' wtm_at "Wi"
      refine W_nil ?_
      refine Nx_next ?_
      exact tail _ Sub.rfl h
  · rw [e1] at h
    rw [e2]
    with_reducible refine itT (by with_unfolding_all rfl) ?_
    repeat' wtm_at "W"
    refine W_ditem rfl D e2 ?_ rfl (fun _ => rfl)
    exact ⟨G, Sub.rfl, h _⟩
/-- the letters of a text, shown -/
def letsOf (x : Str) : List Str := (List.range x.cps.size).map fun i => letS (x.cps.getD i 0) (Txt.slice x (some ((i : Int) + 1)) (some ((i : Int) + 2)))
def showText (x : Str) : Str := "\"" ++ Txt.join "" (letsOf x) ++ "\""
def okText (x : Str) : Bool := x.cps.all okC
theorem show_text_spec {x : Str} {t : Tok} (hv : Ok v nm sc (d + 2)) (hx : x.length ≤ 1000) (hc : okText x = true) (h : ∀ t, k (.str (showText x) t) l G) : C v (.call (.ref 290) ⟨[.str x t], []⟩) l G k := by
  refine C_fnC' (c := "text") hv (kf_290 _) (by kernel_rfl) (binds := [("text", .str x t)]) (fun S => by kernel_rfl) (by kernel_rfl) [] (some (.str x t)) (by rfl) (by rfl) fun v' cA o hv' hw hcl ho hlt => ?_
  refine W_AssignComp (cl := [("text", cA)]) hv' ?c1 (by kernel_rfl) ?_ (by kernel_rfl) (by kernel_rfl) (fun _ => rfl)
  case c1 => 
    unfold V.env
    rw [hcl]
    rfl
  have hcell : v'.cl.lookup ("text" : Str) = some cA := by rw [hcl]; rfl
  repeat' wtm_at "W"
  refine W_range1 fun r or ltr RT => ?_
  refine W_iter_range hv' RT (by omega) (by omega) fun I oI ltI TI => ?_
  rw [Int.toNat_natCast] at TI
  refine ⟨I, _, _, _, rfl, by wtm_at "Z", TI, fun C D G3 s3 lt hfp dc NC PD => ?_⟩
  refine CompTurns.plain (Gb := (cA, o) :: G) (fun i acc => StrsV acc ((letsOf x).take i)) (fun p hp => ltI p (.tail _ hp)) (fun p hp => .tail _ (.tail _ hp)) s3 lt hfp ⟨_, .head _⟩ dc rfl (by kernel_rfl) .nil ?_ ?_
  · rintro i acc lc a G1 sb hi ⟨t1, rfl⟩ J NC
    have cA1 := sb _ (.head _)
    obtain ⟨c, hcc⟩ : ∃ c, x.cps[i]? = some c := ⟨_, Array.getElem?_eq_getElem hi⟩
    repeat' wtm_at "W"
    refine W_sub_str (i := (i : Int)) (c := c) (by omega) (by omega) (by rw [Int.toNat_natCast]; exact hcc) (fun t2 => ?_) rfl
    repeat' wtm_at "W"
    have okc : okC c = true := Array.all_eq_true_iff_forall_mem.mp hc c (Array.mem_of_getElem? hcc)
    refine W_call (show_letter_spec hv' okc fun t3 => ⟨rfl, Sub.rfl, ?_⟩)
    have e : (letsOf x).take (i + 1) = (letsOf x).take i ++ [letS c (Txt.slice x (some ((i : Int) + 1)) (some ((i : Int) + 2)))] := by
      have hl : i < (letsOf x).length := by unfold letsOf; rw [List.length_map, List.length_range]; exact hi
      have e0 : (letsOf x)[i]'hl = letS (x.cps.getD i 0) (Txt.slice x (some ((i : Int) + 1)) (some ((i : Int) + 2))) := by simp only [letsOf, List.getElem_map, List.getElem_range]
      have e1 : x.cps.getD i 0 = c := by rw [Array.getD_eq_getD_getElem?, hcc]; rfl
      rw [List.take_succ_eq_append_getElem hl, e0, e1]
    rw [e]
    exact J.snoc
  · intro acc hl J G1 sb PD
    have e : (letsOf x).take x.length = letsOf x := List.take_of_length_le (by unfold letsOf; rw [List.length_map, List.length_range]; exact Nat.le_refl _)
    rw [e] at J
    have two : ∀ z ∈ letsOf x, z.length ≤ 4 := by
      unfold letsOf
      intro z hz
      obtain ⟨i, hi, rfl⟩ := List.mem_map.mp hz
      exact letS_len _ _
    have tot : ((letsOf x).map (·.length)).sum ≤ 4 * x.length := by
      have := sum_le 4 (letsOf x) two
      have e : (letsOf x).length = x.length := by unfold letsOf; rw [List.length_map, List.length_range]; rfl
      rw [e] at this
      exact this
    have jl : (Txt.join "" (letsOf x)).length ≤ 4 * x.length := Nat.le_trans (join0_len _) tot
    repeat' wtm_at "W"
    refine W_join PD.il J (by show _ + _ * 0 ≤ _; omega) fun t4 => ?_
    refine W_adds (by rw [sizeLine_eq]; show 1 + _ ≤ _; omega) fun _ => ?_
    refine W_str fun _ => ?_
    refine W_adds (by rw [sizeLine_eq, str_append_len]; show 1 + _ + 1 ≤ _; omega) fun _ => ?_
    refine ⟨G, fun p hp => sb p (.tail _ hp), ?_⟩
    exact h _
end
theorem kf_278 (P) : (K P).lookup 278 = some (k278 P) := by kernel_rfl
theorem letsOf_len (x : Str) : (letsOf x).length = x.length := by unfold letsOf; rw [List.length_map, List.length_range]; rfl
theorem showText_len (x : Str) : (showText x).length ≤ 4 * x.length + 2 := by
  have two : ∀ z ∈ letsOf x, z.length ≤ 4 := by
    unfold letsOf
    intro z hz
    obtain ⟨i, hi, rfl⟩ := List.mem_map.mp hz
    exact letS_len _ _
  have tot := sum_le 4 (letsOf x) two
  rw [letsOf_len] at tot
  have jl := Nat.le_trans (join0_len (letsOf x)) tot
  unfold showText
  rw [str_append_len, str_append_len]
  show 1 + _ + 1 ≤ _
  omega
def symShow (x : Str) : Str := ":" ++ (if isPlain x then x else showText x)
def MN : Nat → Led → Addr → Str → Prop
  | 0, G, m, s => ∃ t, Has G m 228 [("attached", .none), ("name", .str s t), ("outer", .none)]
  | n + 1, G, m, s => ∃ t o s1 s2, s = s1 ++ "::" ++ s2 ∧ Has G m 228 [("attached", .none), ("name", .str s2 t), ("outer", .ref o)] ∧ MN n G o s1
theorem MN.sub : ∀ {n : Nat} {G G' : Led} {m : Addr} {s : Str}, MN n G m s → Sub G G' → MN n G' m s
  | 0, _, _, _, _, ⟨t, h⟩, s => ⟨t, h.sub s⟩
  | _ + 1, _, _, _, _, ⟨t, o, s1, s2, e, h, r⟩, s => ⟨t, o, s1, s2, e, h.sub s, MN.sub r s⟩
section
variable {v : V} {l : Locs} {G : Led} {nm : Str} {sc : Scope} {d : Nat} {k : Value → Locs → Led → Prop} {pos : Pos} {env : Env}
theorem show_symbol_spec {x : Str} {t : Tok} (hv : Ok v nm sc (d + 3)) (hx : x.length ≤ 1000) (hc : okText x = true) (h : ∀ t, k (.str (symShow x) t) l G) : C v (.call (.ref 297) ⟨[.str x t], []⟩) l G k := by
  refine C_fnP hv (kf_297 _) (by kernel_rfl) [("name", .str x t)] (fun S => by kernel_rfl) (by kernel_rfl) fun v' hv' hw => ?_
  refine W_ret ?_
  repeat' wtm_at "W"
  refine W_call (is_plain_spec hv' hx ?_)
  repeat' wtm_at "W"
  unfold symShow at h
  split
  · rename_i e
    rw [if_pos e] at h
    repeat' wtm_at "W"
    refine W_adds (by rw [sizeLine_eq]; show 1 + _ ≤ _; omega) fun _ => ?_
    exact ⟨G, Sub.rfl, h _⟩
  · rename_i e
    rw [if_neg e] at h
    repeat' wtm_at "W"
    refine W_call (show_text_spec hv' hx hc fun _ => ?_)
    have := showText_len x
    refine W_adds (by rw [sizeLine_eq]; show 1 + _ ≤ _; omega) fun _ => ?_
    exact ⟨G, Sub.rfl, h _⟩
theorem full_name_spec0 {m : Addr} {s : Str} (hv : Ok v nm sc (d + 1)) (M : MN 0 G m s) (h : ∀ t, k (.str s t) l G) : C v (.call (.ref 278) ⟨[.ref m], []⟩) l G k := by
  refine C_fnP hv (kf_278 _) (by kernel_rfl) [("module", .ref m)] (fun S => by kernel_rfl) (by kernel_rfl) fun v' hv' hw => ?_
  obtain ⟨t, I⟩ := M
  refine W_If ?_
  repeat' wtm_at "W"
  exact ⟨G, Sub.rfl, h _⟩
theorem full_name_spec1 {m : Addr} {s : Str} (hv : Ok v nm sc (d + 2)) (M : MN 1 G m s) (hs : s.length ≤ 1000) (h : ∀ t, k (.str s t) l G) : C v (.call (.ref 278) ⟨[.ref m], []⟩) l G k := by
  refine C_fnP hv (kf_278 _) (by kernel_rfl) [("module", .ref m)] (fun S => by kernel_rfl) (by kernel_rfl) fun v' hv' hw => ?_
  obtain ⟨t, o, s1, s2, rfl, I, M⟩ := M
  have hl : s1.length + 2 + s2.length ≤ 1000 := by rw [str_append_len, str_append_len] at hs; exact hs
  refine W_If ?_
  repeat' wtm_at "W"
  refine W_call (full_name_spec0 hv' M fun t1 => ?_)
  repeat' wtm_at "W"
  refine W_adds (by rw [sizeLine_eq]; show _ + 2 ≤ _; omega) fun _ => ?_
  repeat' wtm_at "W"
  refine W_adds (by rw [sizeLine_eq, str_append_len]; show _ + 2 + _ ≤ _; omega) fun _ => ?_
  exact ⟨G, Sub.rfl, h _⟩
end
theorem kf_331 (P) : (K P).lookup 331 = some (k331 P) := by kernel_rfl
theorem kf_323 (P) : (K P).lookup 323 = some (k323 P) := by kernel_rfl
theorem kf_311 (P) : (K P).lookup 311 = some (k311 P) := by kernel_rfl
theorem kf_316 (P) : (K P).lookup 316 = some (k316 P) := by kernel_rfl
abbrev iS (i : Int) : Str := Str.ofString (toString i)
/-- a plain value and how it is shown -/
inductive Flt : Value → Str → Prop
  | none : Flt .none "nil"
  | bool {b} : Flt (.bool b) (if b then "true" else "false")
  | int {i t} : i.natAbs.log2 < 1920 → (iS i).length ≤ 30 → Flt (.int i t) (iS i)
  | sym {x t} : x.length ≤ 20 → okText x = true → Flt (.str x t) (symShow x)
def ShowArgs (P : Params) (args : PySem.Args) (u : Value) (dp : Int) : Prop := ∃ t, ∀ S, peek (K P) S (bindArgs (fnOf "show" "show" (fargs (topS 28)) (fbody (topS 28)) (fscope (topS 28)) (.ref 324) .none .none (.str "gemrows.things" 194) none (.ref 330) .none) args) = some ([("value", u), ("deep", .int dp t)] : Locs)
theorem showArgs1 (P u) : ShowArgs P ⟨[u], []⟩ u 6 := ⟨691, fun S => by kernel_rfl⟩
theorem showArgs2 (P u i t) : ShowArgs P ⟨[u, .int i t], []⟩ u i := ⟨t, fun S => by kernel_rfl⟩
theorem symShow_len {x : Str} (h : x.length ≤ 20) : (symShow x).length ≤ 100 := by
  unfold symShow
  have := showText_len x
  rw [str_append_len]
  show 1 + _ ≤ _
  split <;> omega
theorem Flt.len {u : Value} {s : Str} (h : Flt u s) : s.length ≤ 100 := by
  cases h with
  | none => decide
  | bool => split <;> decide
  | int _ h => omega
  | sym h _ => exact symShow_len h
section
variable {v : V} {l : Locs} {G : Led} {nm : Str} {sc : Scope} {d : Nat} {k : Value → Locs → Led → Prop} {pos : Pos} {env : Env}
theorem show_flat_spec {u : Value} {s : Str} {dp : Int} {args : PySem.Args} (hv : Ok v nm sc (d + 4)) (T : Flt u s) (ha : ShowArgs v.w.params args u dp) (h : ∀ t, k (.str s t) l G) : C v (.call (.ref 331) args) l G k := by
  obtain ⟨t, ha⟩ := ha
  refine C_fnP hv (kf_331 _) (by kernel_rfl) [("deep", .int dp t), ("value", u)] ha (by kernel_rfl) fun v' hv' hw => ?_
  refine W_Assign (x := "sort") ?_ (hs := by kernel_rfl)
  cases T with
  | none =>
    repeat' wtm_at "W"
    refine W_call (sort_of_spec hv' .none (by wtm_at "M") fun _ => ?_)
    repeat' wtm_at "W"
    exact ⟨G, Sub.rfl, h _⟩
  | bool =>
    rename_i b
    repeat' wtm_at "W"
    refine W_call (sort_of_spec hv' .bool (by wtm_at "M") fun _ => ?_)
    repeat' wtm_at "W"
    cases b <;> (repeat' wtm_at "W")
    · exact ⟨G, Sub.rfl, h _⟩
    · exact ⟨G, Sub.rfl, h _⟩
  | int h1 h2 =>
    repeat' wtm_at "W"
    refine W_call (sort_of_spec hv' .int (by wtm_at "M") fun _ => ?_)
    repeat' wtm_at "W"
    refine W_str_int h1 fun _ => ?_
    exact ⟨G, Sub.rfl, h _⟩
  | sym h1 h2 =>
    repeat' wtm_at "W"
    refine W_call (sort_of_spec hv' .str (by wtm_at "M") fun _ => ?_)
    repeat' wtm_at "W"
    refine W_call (show_symbol_spec hv' (by omega) h2 fun _ => ?_)
    exact ⟨G, Sub.rfl, h _⟩
end
def okI (i : Int) : Bool := decide (i.natAbs.log2 < 1920) && decide ((iS i).length ≤ 30)
theorem okI_flt {i : Int} {t : Tok} (h : okI i = true) : Flt (.int i t) (iS i) := by
  unfold okI at h
  rw [Bool.and_eq_true, decide_eq_true_eq, decide_eq_true_eq] at h
  exact .int h.1 h.2
def MX (G : Led) (m : Addr) (s : Str) : Prop := s.length ≤ 50 ∧ (MN 0 G m s ∨ MN 1 G m s)
theorem MX.sub {G G' : Led} {m : Addr} {s : Str} (h : MX G m s) (b : Sub G G') : MX G' m s := ⟨h.1, h.2.imp (·.sub b) (·.sub b)⟩
/-- a message and what it tells -/
inductive Msg (G : Led) : Value → Str → Prop
  | text {a x t} : Has G a 62 [("text", .str x t)] → x.length ≤ 20 → Msg G (.ref a) x
  | flat {u s} : Flt u s → u ≠ .none → Msg G u s
theorem Msg.sub {G G' : Led} {u : Value} {s : Str} (h : Msg G u s) (b : Sub G G') : Msg G' u s := by
  cases h with
  | text h l => exact .text (h.sub b) l
  | flat h n => exact .flat h n
theorem Msg.len {G : Led} {u : Value} {s : Str} (h : Msg G u s) : s.length ≤ 100 := by
  cases h with
  | text _ l => omega
  | flat h => exact h.len
/-- an error, its class and what its message tells -/
def Err (G : Led) (a : Addr) (name : Str) (m : Option Str) : Prop := ∃ o u, Has G a 181 [("owner", .ref o), ("message", u)] ∧ MX G o name ∧ match m with
  | none => u = .none
  | some s => Msg G u s
theorem Err.sub {G G' : Led} {a : Addr} {name : Str} {m : Option Str} (h : Err G a name m) (b : Sub G G') : Err G' a name m := by
  obtain ⟨o, u, h, n, r⟩ := h
  refine ⟨o, u, h.sub b, n.sub b, ?_⟩
  cases m with
  | none => exact r
  | some s => exact Msg.sub r b
def errShow (name : Str) : Option Str → Str
  | none => "#<" ++ name ++ ": " ++ name ++ ">"
  | some told => if told == "" then name else "#<" ++ name ++ ": " ++ told ++ ">"
def rangeShow (i : Int) (b : Bool) (s2 : Str) : Str := iS i ++ (if b then ("..." : Str) else "..") ++ s2
section
variable {v : V} {l : Locs} {G : Led} {nm : Str} {sc : Scope} {d : Nat} {k : Value → Locs → Led → Prop} {pos : Pos} {env : Env}
theorem full_name_spec {m : Addr} {s : Str} (hv : Ok v nm sc (d + 2)) (M : MX G m s) (h : ∀ t, k (.str s t) l G) : C v (.call (.ref 278) ⟨[.ref m], []⟩) l G k := by
  rcases M.2 with M' | M'
  · exact full_name_spec0 hv M' h
  · exact full_name_spec1 hv M' (by have := M.1; omega) h
theorem show_range_spec {a : Addr} {i : Int} {t : Tok} {u : Value} {b : Bool} {s2 : Str} {dp : Int} {td : Tok} (hv : Ok v nm sc (d + 5)) (I : Has G a 140 [("first", .int i t), ("last", u), ("open", .bool b)]) (hi : okI i = true) (hu : u = .none ∧ s2 = "" ∨ ∃ j t', u = .int j t' ∧ s2 = iS j ∧ okI j = true)
    (h : ∀ t, k (.str (rangeShow i b s2) t) l G) : C v (.call (.ref 311) ⟨[.ref a, .int dp td], []⟩) l G k := by
  refine C_fnP hv (kf_311 _) (by kernel_rfl) [("deep", .int dp td), ("value", .ref a)] (fun S => by kernel_rfl) (by kernel_rfl) fun v' hv' hw => ?_
  refine W_Assign (x := "first") ?_ (hs := by kernel_rfl)
  repeat' wtm_at "W"
  refine W_call (show_flat_spec hv' (okI_flt hi) (showArgs2 _ _ _ _) fun _ => ?_)
  have l1 := (okI_flt (t := t) hi).len
  have l2 : s2.length ≤ 100 := by
    rcases hu with ⟨_, rfl⟩ | ⟨j, t', _, rfl, hj⟩
    · decide
    · exact (okI_flt (t := t') hj).len
  refine W_store hv' ?_ (by kernel_rfl)
  refine W_Assign (x := "last") (W_cut (fun a => ∃ tl, a = .str s2 tl) ?_ ?_) (hs := by kernel_rfl)
  · rcases hu with ⟨rfl, rfl⟩ | ⟨j, t', rfl, rfl, hj⟩
    · repeat' wtm_at "W"
      exact ⟨rfl, Sub.rfl, _, rfl⟩
    · repeat' wtm_at "W"
      refine W_call (show_flat_spec hv' (okI_flt hj) (showArgs2 _ _ _ _) fun _ => ?_)
      exact ⟨rfl, Sub.rfl, _, rfl⟩
  rintro _ ⟨tl, rfl⟩
  repeat' wtm_at "W"
  cases b
  · repeat' wtm_at "W"
    refine W_adds (by rw [sizeLine_eq]; show _ + 2 ≤ _; omega) fun _ => ?_
    repeat' wtm_at "W"
    refine W_adds (by rw [sizeLine_eq, str_append_len]; show _ + 2 + _ ≤ _; omega) fun _ => ?_
    exact ⟨_, Sub.rfl, h _⟩
  · repeat' wtm_at "W"
    refine W_adds (by rw [sizeLine_eq]; show _ + 3 ≤ _; omega) fun _ => ?_
    repeat' wtm_at "W"
    refine W_adds (by rw [sizeLine_eq, str_append_len]; show _ + 3 + _ ≤ _; omega) fun _ => ?_
    exact ⟨_, Sub.rfl, h _⟩
theorem show_error_spec {a : Addr} {name : Str} {m : Option Str} {tn : Tok} {dp : Int} {td : Tok} (hv : Ok v nm sc (d + 5)) (I : Err G a name m) (h : ∀ t, k (.str (errShow name m) t) l G) : C v (.call (.ref 323) ⟨[.ref a, .str name tn, .int dp td], []⟩) l G k := by
  refine C_fnP hv (kf_323 _) (by kernel_rfl) [("deep", .int dp td), ("name", .str name tn), ("value", .ref a)] (fun S => by kernel_rfl) (by kernel_rfl) fun v' hv' hw => ?_
  obtain ⟨o, u, I, ⟨ln, M⟩, hm⟩ := I
  refine W_Assign (x := "message") ?_ (hs := by kernel_rfl)
  have hh : handedIn u = true := by
    cases m with
    | none => rw [hm]; rfl
    | some s => cases hm with
      | text => rfl
      | flat f => cases f <;> rfl
  refine W_Attribute ?_ (by kernel_rfl)
  repeat' wtm_at "W"
  refine W_fieldH hv' I (by kernel_rfl) (by wtm_at "L") hh ?_
  refine W_store hv' ?_ (by kernel_rfl)
  cases m with
  | none =>
    have hm : u = .none := hm
    subst hm
    repeat' wtm_at "W"
    refine W_adds (by rw [sizeLine_eq]; show 2 + _ ≤ _; omega) fun _ => ?_
    repeat' wtm_at "W"
    refine W_adds (by rw [sizeLine_eq, str_append_len]; show 2 + _ + 2 ≤ _; omega) fun _ => ?_
    repeat' wtm_at "W"
    refine W_adds (by rw [sizeLine_eq, str_append_len, str_append_len]; show 2 + _ + 2 + _ ≤ _; omega) fun _ => ?_
    repeat' wtm_at "W"
    refine W_adds (by rw [sizeLine_eq, str_append_len, str_append_len, str_append_len]; show 2 + _ + 2 + _ + 1 ≤ _; omega) fun _ => ?_
    exact ⟨G, Sub.rfl, h _⟩
  | some s =>
    have hm : Msg G u s := hm
    have ls := hm.len
    have ty : ∃ ty, Ty G u ty ∧ ty ∈ tysC ∧ isNone u = false ∧ (isiB ty (.ref 62) = true ∧ (∃ a' t', u = .ref a' ∧ Has G a' 62 [("text", .str s t')]) ∨ isiB ty (.ref 62) = false ∧ Flt u s) := by
      cases hm with
      | text H hl => exact ⟨_, H.ty, by wtm_at "M", rfl, .inl ⟨by rfl, _, _, rfl, H⟩⟩
      | flat f hn =>
        cases f with
        | none => exact absurd rfl hn
        | bool => exact ⟨_, .bool, by wtm_at "M", by rfl, .inr ⟨by rfl, .bool⟩⟩
        | int a b => exact ⟨_, .int, by wtm_at "M", by rfl, .inr ⟨by rfl, .int a b⟩⟩
        | sym a b => exact ⟨_, .str, by wtm_at "M", by rfl, .inr ⟨by rfl, .sym a b⟩⟩
    obtain ⟨ty, T, t1, inn, t2⟩ := ty
    repeat' wtm_at "W"
    rw [inn]
    repeat' wtm_at "Wi"
    refine W_nil (Nx_next ?_)
    refine W_Assign (x := "told") (W_cut (fun a => ∃ tl, a = .str s tl) ?_ ?_) (hs := by kernel_rfl)
    · repeat' wtm_at "W"
      rcases t2 with ⟨t2, a', t', rfl, H⟩ | ⟨t2, f⟩
      · refine itT t2 ?_
        repeat' wtm_at "W"
        exact ⟨rfl, Sub.rfl, _, rfl⟩
      · refine itF t2 ?_
        repeat' wtm_at "W"
        refine W_call (show_flat_spec hv' f (showArgs2 _ _ _ _) fun _ => ?_)
        exact ⟨rfl, Sub.rfl, _, rfl⟩
    rintro _ ⟨tl, rfl⟩
    repeat' wtm_at "W"
    unfold errShow at h
    dsimp only at h
    split
    · rename_i e
      rw [if_pos e] at h
      repeat' wtm_at "W"
      exact ⟨_, Sub.rfl, h _⟩
    · rename_i e
      rw [if_neg e] at h
      repeat' wtm_at "W"
      refine W_adds (by rw [sizeLine_eq]; show 2 + _ ≤ _; omega) fun _ => ?_
      repeat' wtm_at "W"
      refine W_adds (by rw [sizeLine_eq, str_append_len]; show 2 + _ + 2 ≤ _; omega) fun _ => ?_
      repeat' wtm_at "W"
      refine W_adds (by rw [sizeLine_eq, str_append_len, str_append_len]; show 2 + _ + 2 + _ ≤ _; omega) fun _ => ?_
      repeat' wtm_at "W"
      refine W_adds (by rw [sizeLine_eq, str_append_len, str_append_len, str_append_len]; show 2 + _ + 2 + _ + 1 ≤ _; omega) fun _ => ?_
      exact ⟨_, Sub.rfl, h _⟩
end
theorem kf_117 (P) : (K P).lookup 117 = some (k117 P) := by kernel_rfl
theorem kf_304 (P) : (K P).lookup 304 = some (k304 P) := by kernel_rfl
/-- a value that holds no other values -/
inductive Leaf (G : Led) : Value → Str → Prop
  | flat {u s} : Flt u s → Leaf G u s
  | text {a x t} : Has G a 62 [("text", .str x t)] → x.length ≤ 20 → okText x = true → Leaf G (.ref a) (showText x)
  | range {a : Addr} {i : Int} {t : Tok} {u : Value} {b : Bool} {s2 : Str} : Has G a 140 [("first", .int i t), ("last", u), ("open", .bool b)] → okI i = true → (u = .none ∧ s2 = "" ∨ ∃ j t', u = .int j t' ∧ s2 = iS j ∧ okI j = true) → Leaf G (.ref a) (rangeShow i b s2)
  | mod {a s} : MX G a s → Leaf G (.ref a) s
  | err {a name m} : Err G a name m → Leaf G (.ref a) (errShow name m)
theorem Leaf.sub {G G' : Led} {u : Value} {s : Str} (h : Leaf G u s) (b : Sub G G') : Leaf G' u s := by
  cases h with
  | flat f => exact .flat f
  | text h1 h2 h3 => exact .text (h1.sub b) h2 h3
  | range h1 h2 h3 => exact .range (h1.sub b) h2 h3
  | mod h => exact .mod (h.sub b)
  | err h => exact .err (h.sub b)
def Two (R : Value → Str → Prop) : List Value → List Str → Prop
  | [], [] => True
  | u :: us, s :: ss => R u s ∧ Two R us ss
  | _, _ => False
theorem Two.ind {R : Value → Str → Prop} {M : List Value → List Str → Prop} (h0 : M [] []) (h1 : ∀ u us s ss, R u s → Two R us ss → M us ss → M (u :: us) (s :: ss)) : ∀ {us : List Value} {ss : List Str}, Two R us ss → M us ss := by
  intro us
  induction us with
  | nil =>
    intro ss h
    cases ss with
    | nil => exact h0
    | cons _ _ => exact h.elim
  | cons u us ih =>
    intro ss h
    cases ss with
    | nil => exact h.elim
    | cons s ss => exact h1 _ _ _ _ h.1 h.2 (ih h.2)
theorem Two.imp {R R' : Value → Str → Prop} (h : ∀ u s, R u s → R' u s) {us : List Value} {ss : List Str} (t : Two R us ss) : Two R' us ss := t.ind (M := Two R') trivial fun _ _ _ _ a _ ih => ⟨h _ _ a, ih⟩
theorem Two.length {R : Value → Str → Prop} {us : List Value} {ss : List Str} (t : Two R us ss) : us.length = ss.length := t.ind (M := fun us ss => us.length = ss.length) rfl fun _ _ _ _ _ _ ih => congrArg (· + 1) ih
theorem Two.get {R : Value → Str → Prop} {us : List Value} {ss : List Str} {i : Nat} {u : Value} (t : Two R us ss) : us[i]? = some u → ∃ s, ss[i]? = some s ∧ R u s :=
  t.ind (M := fun us ss => ∀ i, us[i]? = some u → ∃ s, ss[i]? = some s ∧ R u s) (fun i e => by simp at e) (fun u us s ss a _ ih i e => by
    cases i with
    | zero => cases e; exact ⟨s, rfl, a⟩
    | succ i => exact ih i e) i
theorem Two.all {R : Value → Str → Prop} {P : Str → Prop} (h : ∀ u s, R u s → P s) {us : List Value} {ss : List Str} (t : Two R us ss) : ∀ s ∈ ss, P s :=
  t.ind (M := fun _ ss => ∀ s ∈ ss, P s) (fun _ hm => nomatch hm) fun _ _ _ _ a _ ih s hm => (List.mem_cons.mp hm).elim (fun e => e ▸ h _ _ a) (ih s)
theorem Two.snoc {R : Value → Str → Prop} {u : Value} {s : Str} (h : R u s) {us : List Value} {ss : List Str} (t : Two R us ss) : Two R (us ++ [u]) (ss ++ [s]) :=
  t.ind (M := fun us ss => Two R (us ++ [u]) (ss ++ [s])) ⟨h, trivial⟩ fun _ _ _ _ a _ ih => ⟨a, ih⟩
/-- a key and what stands ahead of its value -/
inductive KeyR (G : Led) : Value → Str → Prop
  | sym {x t} : x.length ≤ 20 → okText x = true → KeyR G (.str x t) ((if isLabel x then x else showText x) ++ ": ")
  | int {i t} : okI i = true → KeyR G (.int i t) (iS i ++ " => ")
  | text {a x t} : Has G a 62 [("text", .str x t)] → x.length ≤ 20 → okText x = true → KeyR G (.ref a) (showText x ++ " => ")
theorem KeyR.sub {G G' : Led} {u : Value} {s : Str} (h : KeyR G u s) (b : Sub G G') : KeyR G' u s := by
  cases h with
  | sym h1 h2 => exact .sym h1 h2
  | int h => exact .int h
  | text h1 h2 h3 => exact .text (h1.sub b) h2 h3
def RowR (G : Led) (R : Value → Str → Prop) (row : Value) (s : Str) : Prop := ∃ ra key val ahead told, row = .ref ra ∧ IL G ra [key, val] ∧ KeyR G key ahead ∧ R val told ∧ s = ahead ++ told
def TabH (G : Led) (a dr : Addr) : Prop := ∃ dx fs, IG G a 120 dx fs ∧ fs.lookup ("rows" : Str) = some (.ref dr) ∧ fs.lookup ("pairs" : Str) = none
theorem TabH.sub {G G' : Led} {a dr : Addr} (h : TabH G a dr) (s : Sub G G') : TabH G' a dr := let ⟨dx, fs, I, r⟩ := h; ⟨dx, fs, I.sub s, r⟩
theorem TabH.has {G : Led} {a dr : Addr} (h : TabH G a dr) : Has G a 120 [("rows", .ref dr)] := let ⟨_, _, I, h1, _⟩ := h; I.hasB (reqB_cons h1 reqB_nil)
/-- the value u, at most n deep, is shown as s -/
def Rep (G : Led) : Nat → Value → Str → Prop
  | 0, u, s => Leaf G u s
  | n + 1, u, s => Leaf G u s ∨ (∃ a li vs ss, u = .ref a ∧ s = "[" ++ Txt.join ", " ss ++ "]" ∧ Has G a 82 [("items", .ref li)] ∧ IL G li vs ∧ vs.length ≤ 3 ∧ Two (Rep G n) vs ss) ∨
    (∃ a dr rws ss, u = .ref a ∧ s = "{" ++ Txt.join ", " ss ++ "}" ∧ TabH G a dr ∧ VD G dr rws ∧ rws.length ≤ 3 ∧ Two (RowR G (Rep G n)) rws ss)
theorem Rep.leaf {G : Led} : ∀ {n : Nat} {u : Value} {s : Str}, Leaf G u s → Rep G n u s
  | 0, _, _, h => h
  | _ + 1, _, _, h => .inl h
theorem RowR.sub {G G' : Led} {R R' : Value → Str → Prop} (b : Sub G G') (hR : ∀ u s, R u s → R' u s) {u : Value} {s : Str} (h : RowR G R u s) : RowR G' R' u s := by
  obtain ⟨ra, key, val, ahead, told, h1, h2, h3, h4, h5⟩ := h
  exact ⟨ra, key, val, ahead, told, h1, h2.sub b, h3.sub b, hR _ _ h4, h5⟩
theorem Rep.sub {G G' : Led} (b : Sub G G') : ∀ {n : Nat} {u : Value} {s : Str}, Rep G n u s → Rep G' n u s := by
  intro n
  induction n with
  | zero => exact fun h => Leaf.sub h b
  | succ n ih =>
    intro u s h
    refine h.imp (fun h => h.sub b) fun h => h.imp (fun h => ?_) fun h => ?_
    · obtain ⟨a, li, vs, ss, h1, h2, h3, h4, h5, h6⟩ := h
      exact ⟨a, li, vs, ss, h1, h2, h3.sub b, h4.sub b, h5, h6.imp fun _ _ h => ih h⟩
    · obtain ⟨a, dr, rws, ss, h1, h2, h3, h4, h5, h6⟩ := h
      exact ⟨a, dr, rws, ss, h1, h2, h3.sub b, h4.sub b, h5, h6.imp fun _ _ h => h.sub b fun _ _ h => ih h⟩
theorem Leaf.len {G : Led} {u : Value} {s : Str} (h : Leaf G u s) : s.length ≤ 400 := by
  cases h with
  | flat f => have := f.len; omega
  | @text a x t _ h _ =>
    have := showText_len x
    omega
  | @range a i t u b s2 _ h1 h2 =>
    have l1 := (okI_flt (t := t) h1).len
    have l2 : s2.length ≤ 100 := by
      rcases h2 with ⟨_, rfl⟩ | ⟨j, t', _, rfl, hj⟩
      · decide
      · exact (okI_flt (t := t') hj).len
    unfold rangeShow
    rw [str_append_len, str_append_len]
    have l3 : (if b = true then ("..." : Str) else "..").length ≤ 3 := by cases b <;> decide
    omega
  | mod h => have := h.1; omega
  | @err a name m h =>
    obtain ⟨o, u, _, ⟨hn, _⟩, hm⟩ := h
    cases m with
    | none =>
      show ("#<" ++ name ++ ": " ++ name ++ ">" : Str).length ≤ _
      rw [str_append_len, str_append_len, str_append_len, str_append_len]
      show 2 + _ + 2 + _ + 1 ≤ _
      omega
    | some told =>
      have ht := Msg.len hm
      show (if told == "" then name else "#<" ++ name ++ ": " ++ told ++ ">" : Str).length ≤ _
      split
      · omega
      · rw [str_append_len, str_append_len, str_append_len, str_append_len]
        show 2 + _ + 2 + _ + 1 ≤ _
        omega
theorem KeyR.len {G : Led} {u : Value} {s : Str} (h : KeyR G u s) : s.length ≤ 200 := by
  cases h with
  | @sym x _ h1 h2 =>
    have := showText_len x
    rw [str_append_len]
    show _ + 2 ≤ _
    split <;> omega
  | @int i t h =>
    have := (okI_flt (t := t) h).len
    rw [str_append_len]
    show _ + 4 ≤ _
    omega
  | @text a x t _ h1 _ =>
    have := showText_len x
    rw [str_append_len]
    show _ + 4 ≤ _
    omega
def BB : Nat → Nat
  | 0 => 400
  | n + 1 => 3 * (BB n + 200) + 400
theorem join3_len {g : Str} {ss : List Str} {b : Nat} (hg : g.length = 2) (h : ∀ s ∈ ss, s.length ≤ b) (hl : ss.length ≤ 3) : (Txt.join g ss).length ≤ 3 * b + 6 := by
  have h1 := join_len g ss
  have h2 := sum_le b ss h
  have h3 : b * ss.length ≤ b * 3 := Nat.mul_le_mul_left b hl
  rw [hg] at h1
  omega
theorem Rep.len {G : Led} : ∀ {n : Nat} {u : Value} {s : Str}, Rep G n u s → s.length ≤ BB n := by
  intro n
  induction n with
  | zero => exact fun h => Leaf.len h
  | succ n ih =>
    intro u s h
    show _ ≤ 3 * (BB n + 200) + 400
    rcases h with h | h | h
    · have := h.len; omega
    · obtain ⟨a, li, vs, ss, h1, h2, h3, h4, h5, h6⟩ := h
      have := join3_len (g := ", ") rfl (h6.all fun _ _ h => ih h) (by rw [← h6.length]; exact h5)
      rw [h2, str_append_len, str_append_len]
      show 1 + _ + 1 ≤ _
      omega
    · obtain ⟨a, dr, rws, ss, h1, h2, h3, h4, h5, h6⟩ := h
      have : ∀ s ∈ ss, s.length ≤ BB n + 200 := h6.all fun _ _ h => by
        obtain ⟨_, _, _, _, _, _, _, hk, hv, e⟩ := h
        have := hk.len
        have := ih hv
        rw [e, str_append_len]
        omega
      have := join3_len (g := ", ") rfl this (by rw [← h6.length]; exact h5)
      rw [h2, str_append_len, str_append_len]
      show 1 + _ + 1 ≤ _
      omega
section
variable {v : V} {l : Locs} {G : Led} {nm : Str} {sc : Scope} {d : Nat} {k : Value → Locs → Led → Prop} {pos : Pos} {env : Env}
/-- the pairs of a table: a new list of new tuples -/
theorem pairs_spec {a dr : Addr} {rws : List Value} {ss : List Str} {R : Value → Str → Prop} (hv : Ok v nm sc (d + 1)) (I : Has G a 120 [("rows", .ref dr)]) (T : VD G dr rws) (hl : rws.length ≤ 3) (hR : Two (RowR G R) rws ss)
    (h : ∀ b G' ts, Sub G G' → PL G' b ts → Two (fun t s => ∃ ta key val ahead told, t = .ref ta ∧ TL G' ta [key, val] ∧ KeyR G key ahead ∧ R val told ∧ s = ahead ++ told) ts ss → k (.ref b) l G') : C v (.call (.ref 117) ⟨[.ref a], []⟩) l G k := by
  refine C_fnP hv (kf_117 _) (by kernel_rfl) [("self", .ref a)] (fun S => by kernel_rfl) (by kernel_rfl) fun v' hv' hw => ?_
  refine W_ret ?_
  refine W_ListComp (cl := []) hv' (by rfl) (by kernel_rfl) ?_ (fun _ => rfl)
  repeat' wtm_at "W"
  refine W_m_values T ?_
  repeat' wtm_at "W"
  refine W_values T fun w ltw mw => ?_
  refine W_iter_values hv' (T.sub Sub.cons) mw fun Iv oI ltI TI => ?_
  refine ⟨Iv, _, _, _, rfl, by wtm_at "Z", TI, fun C D G3 s3 lt hfp dc NC PD => ?_⟩
  refine CompTurns.frz (Gb := G) (fun i acc Z => Two (fun t s => ∃ ta key val ahead told, t = .ref ta ∧ TL Z ta [key, val] ∧ KeyR G key ahead ∧ R val told ∧ s = ahead ++ told) acc (ss.take i))
    (fun p hp => ltI p (.tail _ hp)) (fun p hp => .tail _ (.tail _ hp)) s3 lt hfp ⟨_, .head _⟩ dc trivial ?_ ?_
  · intro i acc lc a1 G1 Z zb zg zc hi hP hJ NC
    obtain ⟨s, hs, ra, key, val, ahead, told, rfl, hil, hk, hr, rfl⟩ := hR.get hP
    refine W_asgName (W_cstore NC (fun G4 b4 NC4 => ?_) rfl (by kernel_rfl))
    have zg4 : Sub Z G4 := fun p hp => b4 p (zg p hp) (zc p hp)
    have il : IL G4 ra [key, val] := hil.sub (zb.trans zg4)
    repeat' wtm_at "W"
    refine W_sub_list il (by decide) (by decide) rfl ?_ rfl
    repeat' wtm_at "W"
    refine W_sub_list il (by decide) (by decide) rfl ?_ rfl
    refine Args_nil ?_
    refine W_newTuple (by wtm_at "Z") fun t o ltt TT => ?_
    refine ⟨rfl, fun p hp ne => .tail _ (b4 p hp ne), ⟨_, NC4.sub Sub.cons⟩, (t, o) :: Z, Sub.cons, ?_, ?_, ?_⟩
    · intro p hp
      rcases List.mem_cons.mp hp with rfl | hp
      · exact .head _
      · exact .tail _ (zg4 p hp)
    · intro p hp
      rcases List.mem_cons.mp hp with rfl | hp
      · exact .inr (b4.low NC4.mem ltt)
      · exact .inl hp
    · rw [take_snoc hs]
      refine Two.snoc ⟨t, key, val, ahead, told, rfl, ?_, hk, hr, rfl⟩ (hJ.imp fun _ _ ⟨ta, key, val, ahead, told, h1, h2, h3⟩ => ⟨ta, key, val, ahead, told, h1, h2.sub Sub.cons, h3⟩)
      obtain ⟨o', m, r⟩ := TT
      refine ⟨o, .head _, ?_⟩
      rcases List.mem_cons.mp m with e | m
      · cases e; exact r
      · exact absurd rfl (Nat.ne_of_lt (ltt _ m))
  · intro acc Z hl2 zb hJ G5 s5 PD5
    rw [List.take_of_length_le (by rw [← hR.length]; exact Nat.le_refl _)] at hJ
    exact ⟨G5, Sub.rfl, h D G5 acc (zb.trans s5) PD5 (hJ.imp fun _ _ ⟨ta, key, val, ahead, told, h1, h2, h3⟩ => ⟨ta, key, val, ahead, told, h1, h2.sub s5, h3⟩)⟩
end
/-- show answers rightly for values at most n deep -/
def ShowOk (n D : Nat) : Prop := ∀ {v : V} {nm : Str} {sc : Scope} {l : Locs} {G : Led} {k : Value → Locs → Led → Prop} {u : Value} {s : Str} {dp : Int} {args : PySem.Args}, Ok v nm sc D → Rep G n u s → (n : Int) + 1 ≤ dp → ShowArgs v.w.params args u dp → (∀ t, k (.str s t) l G) → C v (.call (.ref 331) args) l G k
def ThingOk (n D : Nat) : Prop := ∀ {v : V} {nm : Str} {sc : Scope} {l : Locs} {G : Led} {k : Value → Locs → Led → Prop} {a : Addr} {s : Str} {dp : Int} {td : Tok}, Ok v nm sc D → Rep G n (.ref a) s → (n : Int) + 1 ≤ dp → (∀ t, k (.str s t) l G) → C v (.call (.ref 316) ⟨[.ref a, .int dp td], []⟩) l G k
section
variable {v : V} {l : Locs} {G : Led} {nm : Str} {sc : Scope} {d : Nat} {k : Value → Locs → Led → Prop} {pos : Pos} {env : Env}
theorem MX.ty {G : Led} {a : Addr} {s : Str} (h : MX G a s) : Ty G (.ref a) (.ref 228) := by
  rcases h.2 with ⟨t, h⟩ | ⟨t, o, s1, s2, _, h, _⟩ <;> exact h.ty
theorem thing_leaf {a : Addr} {s : Str} {dp : Int} {td : Tok} (hv : Ok v nm sc (d + 6)) (T : Leaf G (.ref a) s) (hd : 1 ≤ dp) (h : ∀ t, k (.str s t) l G) : C v (.call (.ref 316) ⟨[.ref a, .int dp td], []⟩) l G k := by
  refine C_fnC' (c := "deep") hv (kf_316 _) (by kernel_rfl) (binds := [("value", .ref a), ("deep", .int dp td)]) (fun S => by kernel_rfl) (by kernel_rfl) [("value", .ref a)] (some (.int dp td)) (by rfl) (by rfl) fun v' cA o hv' hw hcl ho hlt => ?_
  have hcell : v'.cl.lookup ("deep" : Str) = some cA := by rw [hcl]; rfl
  refine W_If ?_
  cases T with
  | flat f => cases f
  | text I h1 h2 =>
    repeat' wtm_at "W"
    refine W_call (show_text_spec (hv'.less (e := 0 + 2) (by omega)) (by omega) h2 fun _ => ?_)
    exact ⟨G, Sub.cons, h _⟩
  | range I h1 h2 =>
    repeat' wtm_at "W"
    refine itT (decide_eq_true (by omega)) ?_
    repeat' wtm_at "W"
    refine W_call (show_range_spec hv' (I.sub Sub.cons) h1 h2 fun _ => ?_)
    exact ⟨G, Sub.cons, h _⟩
  | mod I =>
    have T := (I.sub (Sub.cons (p := (cA, o)))).ty
    repeat' wtm_at "W"
    refine W_call (full_name_spec (hv'.less (e := 0 + 2) (by omega)) (I.sub Sub.cons) fun _ => ?_)
    exact ⟨G, Sub.cons, h _⟩
  | err E =>
    obtain ⟨om, u, I, M, hm⟩ := id E
    repeat' wtm_at "W"
    refine W_call (full_name_spec (hv'.less (e := 0 + 2) (by omega)) (M.sub Sub.cons) fun _ => ?_)
    repeat' wtm_at "W"
    refine W_call (show_error_spec hv' (E.sub Sub.cons) fun _ => ?_)
    exact ⟨G, Sub.cons, h _⟩
theorem show_of_thing {n D : Nat} (T : ThingOk n D) (hD : 3 ≤ D) : ShowOk n (D + 1) := by
  intro v nm sc l G k u s dp args hv hR hdp ha h
  have flat : Flt u s → C v (.call (.ref 331) args) l G k := fun f => show_flat_spec (hv.less (e := 0 + 4) (by omega)) f ha h
  have thing : ∀ a, u = .ref a → (∃ C, Ty G u (.ref C) ∧ Value.ref C ∈ tysC) → C v (.call (.ref 331) args) l G k := by
    rintro a rfl ⟨C, ty, hC⟩
    obtain ⟨t, ha⟩ := ha
    refine C_fnP hv (kf_331 _) (by kernel_rfl) [("deep", .int dp t), ("value", .ref a)] ha (by kernel_rfl) fun v' hv' hw => ?_
    refine W_Assign (x := "sort") ?_ (hs := by kernel_rfl)
    repeat' wtm_at "W"
    refine W_call (sort_of_spec (hv'.less (by omega : 0 + 1 ≤ D)) ty hC fun _ => ?_)
    repeat' wtm_at "W"
    refine W_call (T hv' hR hdp fun _ => ?_)
    exact ⟨G, Sub.rfl, h _⟩
  have leaf : Leaf G u s → C v (.call (.ref 331) args) l G k := by
    intro L
    cases L with
    | flat f => exact flat f
    | text I _ _ => exact thing _ rfl ⟨_, I.ty, by wtm_at "M"⟩
    | range I _ _ => exact thing _ rfl ⟨_, I.ty, by wtm_at "M"⟩
    | mod I => exact thing _ rfl ⟨_, I.ty, by wtm_at "M"⟩
    | err E => exact let ⟨_, _, I, _⟩ := id E; thing _ rfl ⟨_, I.ty, by wtm_at "M"⟩
  cases n with
  | zero => exact leaf hR
  | succ n =>
    rcases hR with h1 | ⟨a, li, vs, ss, rfl, h2, I, _⟩ | ⟨a, dr, rws, ss, rfl, h2, I, _⟩
    · exact leaf h1
    · exact thing _ rfl ⟨_, I.ty, by wtm_at "M"⟩
    · exact thing _ rfl ⟨_, I.has.ty, by wtm_at "M"⟩
theorem show_leaf : ShowOk 0 7 := show_of_thing (n := 0) (D := 6) (fun hv hR hdp h => thing_leaf (d := 0) hv (show Leaf _ _ _ from hR) (by omega) h) (by decide)
theorem show_pair_spec {n D : Nat} {key val : Value} {ahead told : Str} {dp : Int} {td : Tok} (S : ShowOk n D) (h7 : 7 ≤ D) (hv : Ok v nm sc (D + 1)) (hk : KeyR G key ahead) (hR : Rep G n val told) (hdp : (n : Int) + 1 ≤ dp) (hb : told.length ≤ 100000)
    (h : ∀ t, k (.str (ahead ++ told) t) l G) : C v (.call (.ref 304) ⟨[key, val, .int dp td], []⟩) l G k := by
  refine C_fnP hv (kf_304 _) (by kernel_rfl) [("deep", .int dp td), ("value", val), ("key", key)] (fun S => by kernel_rfl) (by kernel_rfl) fun v' hv' hw => ?_
  refine W_If ?_
  have la := hk.len
  cases hk with
  | @sym x t h1 h2 =>
    repeat' wtm_at "W"
    refine W_call (sort_of_spec (hv'.less (by omega : 0 + 1 ≤ D)) .str (by wtm_at "M") fun _ => ?_)
    repeat' wtm_at "W"
    rw [str_append_len] at la
    have la : (if isLabel x then x else showText x).length + 2 ≤ 200 := la
    refine W_call (is_label_spec (hv'.less (e := 0 + 2) (by omega)) (by omega) ?_)
    repeat' wtm_at "W"
    split
    · rename_i e
      rw [if_pos e] at la h
      repeat' wtm_at "W"
      refine W_call (S hv' hR hdp (showArgs2 _ _ _ _) fun _ => ?_)
      refine W_adds (by rw [sizeLine_eq, str_append_len]; show _ + 2 + _ ≤ _; omega) fun _ => ?_
      exact ⟨G, Sub.rfl, h _⟩
    · rename_i e
      rw [if_neg e] at la h
      repeat' wtm_at "W"
      refine W_call (show_text_spec (hv'.less (e := 0 + 2) (by omega)) (by omega) h2 fun _ => ?_)
      repeat' wtm_at "W"
      refine W_call (S hv' hR hdp (showArgs2 _ _ _ _) fun _ => ?_)
      refine W_adds (by rw [sizeLine_eq, str_append_len]; show _ + 2 + _ ≤ _; omega) fun _ => ?_
      exact ⟨G, Sub.rfl, h _⟩
  | @int i t h1 =>
    repeat' wtm_at "W"
    refine W_call (sort_of_spec (hv'.less (by omega : 0 + 1 ≤ D)) .int (by wtm_at "M") fun _ => ?_)
    repeat' wtm_at "W"
    refine W_call (show_flat_spec (hv'.less (by omega : 0 + 4 ≤ D)) (okI_flt h1) (showArgs2 _ _ _ _) fun _ => ?_)
    repeat' wtm_at "W"
    rw [str_append_len] at la
    have la : (iS i).length + 4 ≤ 200 := la
    refine W_adds (by rw [sizeLine_eq]; show _ + 4 ≤ _; omega) fun _ => ?_
    repeat' wtm_at "W"
    refine W_call (S hv' hR hdp (showArgs2 _ _ _ _) fun _ => ?_)
    refine W_adds (by rw [sizeLine_eq, str_append_len]; show _ + 4 + _ ≤ _; omega) fun _ => ?_
    exact ⟨G, Sub.rfl, h _⟩
  | @text a x t I h1 h2 =>
    repeat' wtm_at "W"
    refine W_call (sort_of_spec (hv'.less (by omega : 0 + 1 ≤ D)) I.ty (by wtm_at "M") fun _ => ?_)
    repeat' wtm_at "W"
    refine W_call (show_leaf (hv'.less h7) (Leaf.text I h1 h2) (by omega) (showArgs2 _ _ _ _) fun _ => ?_)
    repeat' wtm_at "W"
    rw [str_append_len] at la
    have la : (showText x).length + 4 ≤ 200 := la
    refine W_adds (by rw [sizeLine_eq]; show _ + 4 ≤ _; omega) fun _ => ?_
    repeat' wtm_at "W"
    refine W_call (S hv' hR hdp (showArgs2 _ _ _ _) fun _ => ?_)
    refine W_adds (by rw [sizeLine_eq, str_append_len]; show _ + 4 + _ ≤ _; omega) fun _ => ?_
    exact ⟨G, Sub.rfl, h _⟩
end
section
variable {v : V} {l : Locs} {G : Led} {nm : Str} {sc : Scope} {d : Nat} {k : Value → Locs → Led → Prop} {pos : Pos} {env : Env}
theorem thing_list {n D : Nat} (S : ShowOk n D) (hB : BB n ≤ 100000) {a li : Addr} {vs : List Value} {ss : List Str} {dp : Int} {td : Tok} (hv : Ok v nm sc (D + 1)) (I : Has G a 82 [("items", .ref li)]) (T : IL G li vs) (hl : vs.length ≤ 3) (hR : Two (Rep G n) vs ss) (hdp : (n : Int) + 2 ≤ dp)
    (h : ∀ t, k (.str ("[" ++ Txt.join ", " ss ++ "]") t) l G) : C v (.call (.ref 316) ⟨[.ref a, .int dp td], []⟩) l G k := by
  refine C_fnC' (c := "deep") hv (kf_316 _) (by kernel_rfl) (binds := [("value", .ref a), ("deep", .int dp td)]) (fun S => by kernel_rfl) (by kernel_rfl) [("value", .ref a)] (some (.int dp td)) (by rfl) (by rfl) fun v' cA o hv' hw hcl ho hlt => ?_
  have hcell : v'.cl.lookup ("deep" : Str) = some cA := by rw [hcl]; rfl
  refine W_If ?_
  repeat' wtm_at "W"
  refine itF (decide_eq_false (by omega)) ?_
  repeat' wtm_at "W"
  refine W_ListComp (cl := [("deep", cA)]) hv' ?c1 (by kernel_rfl) ?_ (fun _ => rfl)
  case c1 => 
    unfold V.env
    rw [hcl]
    rfl
  repeat' wtm_at "W"
  refine W_iter_list hv' (T.sub Sub.cons) fun Iv oI ltI TI => ?_
  refine ⟨Iv, _, _, _, rfl, by wtm_at "Z", TI, fun C D G3 s3 lt hfp dc NC PD => ?_⟩
  refine CompTurns.plain (Gb := (cA, o) :: G) (fun i acc => StrsV acc (ss.take i)) (fun p hp => ltI p hp) Sub.cons s3 lt hfp ⟨_, .head _⟩ dc rfl (by kernel_rfl) .nil ?_ ?_
  · rintro i acc lc a1 G1 sb hi hP J NC
    have cA1 := sb _ (.head _)
    obtain ⟨s, hs, hr⟩ := hR.get hP
    repeat' wtm_at "W"
    refine W_call (S hv' (hr.sub (fun p hp => sb p (.tail _ hp))) (by omega) (showArgs2 _ _ _ _) fun t3 => ⟨rfl, Sub.rfl, ?_⟩)
    rw [take_snoc hs]
    exact J.snoc
  · intro acc hl2 J G1 sb PD
    rw [List.take_of_length_le (by rw [← hR.length]; exact Nat.le_refl _)] at J
    have b1 : ∀ s ∈ ss, s.length ≤ BB n := hR.all fun _ _ h => h.len
    have b2 := sum_le _ ss b1
    have l3 : ss.length ≤ 3 := by rw [← hR.length]; exact hl
    have b3 : BB n * ss.length ≤ BB n * 3 := Nat.mul_le_mul_left _ l3
    have b4 := join3_len (g := ", ") rfl b1 l3
    repeat' wtm_at "W"
    refine W_join PD.il J (by show _ + _ * 2 ≤ _; omega) fun t4 => ?_
    refine W_adds (by rw [sizeLine_eq]; show 1 + _ ≤ _; omega) fun _ => ?_
    refine W_str fun _ => ?_
    refine W_adds (by rw [sizeLine_eq, str_append_len]; show 1 + _ + 1 ≤ _; omega) fun _ => ?_
    exact ⟨G, fun p hp => sb p (.tail _ hp), h _⟩
theorem thing_table {n D : Nat} (S : ShowOk n D) (h7 : 7 ≤ D) (hB : BB n ≤ 100000) {a dr : Addr} {rws : List Value} {ss : List Str} {dp : Int} {td : Tok} (hv : Ok v nm sc (D + 2)) (I : TabH G a dr) (T : VD G dr rws) (hl : rws.length ≤ 3) (hR : Two (RowR G (Rep G n)) rws ss) (hdp : (n : Int) + 2 ≤ dp)
    (h : ∀ t, k (.str ("{" ++ Txt.join ", " ss ++ "}") t) l G) : C v (.call (.ref 316) ⟨[.ref a, .int dp td], []⟩) l G k := by
  refine C_fnC' (c := "deep") hv (kf_316 _) (by kernel_rfl) (binds := [("value", .ref a), ("deep", .int dp td)]) (fun S => by kernel_rfl) (by kernel_rfl) [("value", .ref a)] (some (.int dp td)) (by rfl) (by rfl) fun v' cA o hv' hw hcl ho hlt => ?_
  have hcell : v'.cl.lookup ("deep" : Str) = some cA := by rw [hcl]; rfl
  have IH := I.has
  refine W_If ?_
  repeat' wtm_at "W"
  refine itF (decide_eq_false (by omega)) ?_
  repeat' wtm_at "W"
  refine W_ListComp (cl := [("deep", cA)]) hv' ?c1 (by kernel_rfl) ?_ (fun _ => rfl)
  case c1 => 
    unfold V.env
    rw [hcl]
    rfl
  repeat' wtm_at "W"
  obtain ⟨dx, fs, I1, I2, I3⟩ := id I
  refine W_method hv' (I1.sub Sub.cons) (f := 117) (by kernel_rfl) I3 ?_
  repeat' wtm_at "W"
  refine W_call (pairs_spec (hv'.less (e := 0 + 1) (by omega)) (IH.sub Sub.cons) (T.sub Sub.cons) hl (hR.imp fun _ _ h => h.sub Sub.cons fun _ _ h => h) fun b Gp ts sp PLb hT => ?_)
  refine W_iter_list hv' PLb.il fun Iv oI ltI TI => ?_
  have hlen : ts.length = ss.length := hT.length
  have l3 : ss.length ≤ 3 := by rw [← hR.length]; exact hl
  refine ⟨Iv, _, _, _, rfl, by rw [hlen, sizeLine_eq]; omega, TI, fun C D G3 s3 lt hfp dc NC PD => ?_⟩
  refine CompTurns.frz (Gb := Gp) (fun i acc Z => StrsV acc (ss.take i)) (fun p hp => ltI p hp) Sub.cons s3 lt hfp ⟨_, .head _⟩ dc .nil ?_ ?_
  · rintro i acc lc a1 G1 Z zb zg zc hi hP J NC
    obtain ⟨s, hs, ta, key, val, ahead, told, rfl, htl, hk, hr, rfl⟩ := hT.get hP
    have hta : TL G1 ta [key, val] := htl.sub (zb.trans zg)
    refine W_asgTupE hv' hta ?_ (by rfl) (by rfl)
    refine W_order_cons (W_asgName (W_cstore NC (fun G4 b4 NC4 => ?_) rfl (by kernel_rfl)))
    refine W_order_cons (W_asgName (W_cstore NC4 (fun G5 b5 NC5 => ?_) rfl (by kernel_rfl)))
    refine W_order_nil ?_
    have z5 : Sub Z G5 := fun p hp => b5 p (b4 p (zg p hp) (zc p hp)) (zc p hp)
    have cA1 := z5 _ (zb _ (sp _ (.head _)))
    have g5 : Sub G G5 := fun p hp => z5 p (zb p (sp p (.tail _ hp)))
    have rl := hr.len
    repeat' wtm_at "W"
    refine W_call (show_pair_spec S h7 hv' (hk.sub (fun p hp => z5 p (zb p (sp p hp)))) (hr.sub g5) (by omega) (by omega) fun t3 => ⟨rfl, fun p hp ne => b5 p (b4 p hp ne) ne, ⟨_, NC5⟩, Z, Sub.rfl, z5, fun p hp => .inl hp, ?_⟩)
    rw [take_snoc hs]
    exact J.snoc
  · intro acc Z hl2 zb J G5 s5 PD5
    rw [hlen, List.take_of_length_le (Nat.le_refl _)] at J
    have b1 : ∀ s ∈ ss, s.length ≤ BB n + 200 := hR.all fun _ _ ⟨_, _, _, _, _, _, _, hk, hv, e⟩ => by
      have := hk.len
      have := hv.len
      rw [e, str_append_len]
      omega
    have b2 := sum_le _ ss b1
    have b3 : (BB n + 200) * ss.length ≤ (BB n + 200) * 3 := Nat.mul_le_mul_left _ l3
    have b4 := join3_len (g := ", ") rfl b1 l3
    repeat' wtm_at "W"
    refine W_join PD5.il J (by show _ + _ * 2 ≤ _; omega) fun t4 => ?_
    refine W_adds (by rw [sizeLine_eq]; show 1 + _ ≤ _; omega) fun _ => ?_
    refine W_str fun _ => ?_
    refine W_adds (by rw [sizeLine_eq, str_append_len]; show 1 + _ + 1 ≤ _; omega) fun _ => ?_
    exact ⟨G, fun p hp => s5 p (zb p (sp p (.tail _ hp))), h _⟩
end
theorem show_succ {n D : Nat} (S : ShowOk n D) (h7 : 7 ≤ D) (hB : BB n ≤ 100000) : ShowOk (n + 1) (D + 3) := by
  refine show_of_thing (n := n + 1) (D := D + 2) ?_ (by omega)
  intro v nm sc l G k a s dp td hv hR hdp h
  rcases hR with h1 | ⟨a', li, vs, ss, e, rfl, I, T, hl, hR⟩ | ⟨a', dr, rws, ss, e, rfl, I, T, hl, hR⟩
  · exact thing_leaf (d := 0) (hv.less (by omega)) h1 (by omega) h
  · cases e
    exact thing_list S hB (hv.less (by omega)) I T hl hR (by omega) h
  · cases e
    exact thing_table S h7 hB hv I T hl hR (by omega) h
theorem show3 : ShowOk 3 16 := show_succ (D := 13) (show_succ (D := 10) (show_succ (D := 7) show_leaf (by decide) (by decide)) (by decide) (by decide)) (by decide) (by decide)
theorem kf_345 (P) : (K P).lookup 345 = some (k345 P) := by kernel_rfl
theorem kf_352 (P) : (K P).lookup 352 = some (k352 P) := by kernel_rfl
theorem kf_366 (P) : (K P).lookup 366 = some (k366 P) := by kernel_rfl
theorem kf_373 (P) : (K P).lookup 373 = some (k373 P) := by kernel_rfl
/-- a result -/
def ResH (G : Led) (x : Addr) (so sh ou : Str) (n : Int) : Prop := ∃ dx t1 t2 t3 t4, IG G x 355 dx [("sort", .str so t1), ("shown", .str sh t2), ("out", .str ou t3), ("steps", .int n t4)]
theorem ResH.sub {G G' : Led} {x : Addr} {so sh ou : Str} {n : Int} (h : ResH G x so sh ou n) (s : Sub G G') : ResH G' x so sh ou n := let ⟨dx, t1, t2, t3, t4, I⟩ := h; ⟨dx, t1, t2, t3, t4, I.sub s⟩
section
variable {v : V} {l : Locs} {G : Led} {nm : Str} {sc : Scope} {d : Nat} {k : Value → Locs → Led → Prop} {pos : Pos} {env : Env}
theorem result_new {so sh ou : Str} {n : Int} {t1 t2 t3 t4 : Tok} (hv : Ok v nm sc (d + 2)) (h : ∀ x G', Sub G G' → ResH G' x so sh ou n → k (.ref x) l G') : W v (call (.ref 355) [.str so t1, .str sh t2, .str ou t3, .int n t4]) l G k := by
  refine W_newI hv (fI := 345) (by kernel_rfl) (by kernel_rfl) (by kernel_rfl) fun v' x dx G' hv' hw l1 l2 sb I _ => ?_
  refine C_fnP hv' (kf_345 _) (by kernel_rfl) [("steps", .int n t4), ("out", .str ou t3), ("shown", .str sh t2), ("sort", .str so t1), ("self", .ref x)] (fun S => by kernel_rfl) (by kernel_rfl) fun v' hv' hw => ?_
  refine W_AssignAttr (at' := "sort") ?_ (hs := by kernel_rfl)
  repeat' wtm_at "W"
  rename_i I'
  refine ⟨_, Sub.rfl, rfl, h _ _ ?_ ⟨_, _, _, _, _, I'⟩⟩
  rename_i _ b'
  exact fun p hp => b' p (sb p hp) (Nat.ne_of_lt (l1 p hp))
theorem told_spec {x : Addr} {so sh ou : Str} {n : Int} (hv : Ok v nm sc (d + 1)) (I : ResH G x so sh ou n) (h : ∀ t o t1 t2 t3, (∀ p ∈ G, p.1 < t) → TL ((t, o) :: G) t [.str so t1, .str sh t2, .str ou t3] → k (.ref t) l ((t, o) :: G)) : C v (.call (.ref 352) ⟨[.ref x], []⟩) l G k := by
  obtain ⟨dx, t1, t2, t3, t4, I⟩ := I
  refine C_fnP hv (kf_352 _) (by kernel_rfl) [("self", .ref x)] (fun S => by kernel_rfl) (by kernel_rfl) fun v' hv' hw => ?_
  refine W_ret ?_
  repeat' wtm_at "W"
  exact ⟨_, Sub.rfl, h _ _ _ _ _ (by assumption) (by assumption)⟩
def raised (name : Str) : Option Str → Str
  | none => name ++ ": " ++ name
  | some told => name ++ ": " ++ told
theorem raised_spec {a : Addr} {name : Str} {m : Option Str} (hv : Ok v nm sc (d + 17)) (E : Err G a name m) (h : ∀ t, k (.str (raised name m) t) l G) : C v (.call (.ref 366) ⟨[.ref a], []⟩) l G k := by
  obtain ⟨o, u, I, M, hm⟩ := E
  refine C_fnP hv (kf_366 _) (by kernel_rfl) [("thing", .ref a)] (fun S => by kernel_rfl) (by kernel_rfl) fun v' hv' hw => ?_
  have ln := M.1
  refine W_Assign (x := "name") ?_ (hs := by kernel_rfl)
  repeat' wtm_at "W"
  refine W_call (show_leaf (hv'.less (by omega)) (Leaf.mod M) (by decide) (showArgs1 _ _) fun _ => ?_)
  repeat' wtm_at "W"
  cases m with
  | none =>
    have hm : u = .none := hm
    subst hm
    repeat' wtm_at "W"
    refine W_adds (by rw [sizeLine_eq]; show _ + 2 ≤ _; omega) fun _ => ?_
    repeat' wtm_at "W"
    refine W_adds (by rw [sizeLine_eq, str_append_len]; show _ + 2 + _ ≤ _; omega) fun _ => ?_
    exact ⟨G, Sub.rfl, h _⟩
  | some s =>
    have hm : Msg G u s := hm
    have ls := hm.len
    have hh : handedIn u = true := by
      cases hm with
      | text => rfl
      | flat f => cases f <;> rfl
    refine W_fieldH hv' I (by kernel_rfl) (by wtm_at "L") hh ?_
    cases hm with
    | text H hl =>
      have TT := H.ty
      repeat' wtm_at "W"
      refine W_adds (by rw [sizeLine_eq]; show _ + 2 ≤ _; omega) fun _ => ?_
      repeat' wtm_at "W"
      refine W_adds (by rw [sizeLine_eq, str_append_len]; show _ + 2 + _ ≤ _; omega) fun _ => ?_
      exact ⟨G, Sub.rfl, h _⟩
    | flat f hn =>
      have ty : ∃ ty, Ty G u ty ∧ ty ∈ tysC ∧ isiB ty (.ref 62) = false := by
        cases f with
        | none => exact absurd rfl hn
        | bool => exact ⟨_, .bool, by wtm_at "M", by rfl⟩
        | int => exact ⟨_, .int, by wtm_at "M", by rfl⟩
        | sym => exact ⟨_, .str, by wtm_at "M", by rfl⟩
      have inn : isNone u = false := by cases f <;> first | rfl | exact absurd rfl hn
      obtain ⟨ty, T, t1, t2⟩ := ty
      repeat' wtm_at "W"
      rw [inn]
      repeat' wtm_at "W"
      refine W_adds (by rw [sizeLine_eq]; show _ + 2 ≤ _; omega) fun _ => ?_
      repeat' wtm_at "W"
      refine W_fieldH hv' I (by kernel_rfl) (by wtm_at "L") hh ?_
      repeat' wtm_at "W"
      refine itF t2 ?_
      repeat' wtm_at "W"
      refine W_fieldH hv' I (by kernel_rfl) (by wtm_at "L") hh ?_
      repeat' wtm_at "W"
      refine W_call (show_flat_spec (hv'.less (e := 0 + 4) (by omega)) f (showArgs1 _ _) fun _ => ?_)
      refine W_adds (by rw [sizeLine_eq, str_append_len]; show _ + 2 + _ ≤ _; omega) fun _ => ?_
      exact ⟨G, Sub.rfl, h _⟩
end
section
variable {v : V} {l : Locs} {G : Led} {nm : Str} {sc : Scope} {d : Nat} {k : Value → Locs → Led → Prop} {pos : Pos} {env : Env}
theorem result_of_value {wd ou : Addr} {n : Int} {t ts : Tok} {vs : List Value} {xs : List Str} {u : Value} {s : Str} (hv : Ok v nm sc (d + 18)) (I : Has G wd 714 [("out", .ref ou), ("taken", .int n t)]) (T : IL G ou vs) (S : StrsV vs xs) (hz : (xs.map (·.length)).sum ≤ 1000) (R : Rep G 3 u s)
    (h : ∀ x G', Sub G G' → ResH G' x "value" s (Txt.join "" xs) n → k (.ref x) l G') : C v (.call (.ref 373) ⟨[.ref wd, .str "value" ts, u], []⟩) l G k := by
  refine C_fnP hv (kf_373 _) (by kernel_rfl) [("value", u), ("sort", .str "value" ts), ("world", .ref wd)] (fun S => by kernel_rfl) (by kernel_rfl) fun v' hv' hw => ?_
  refine W_Assign (x := "out") ?_ (hs := by kernel_rfl)
  repeat' wtm_at "W"
  refine W_join T S (by show _ + _ * 0 ≤ _; omega) fun t4 => ?_
  repeat' wtm_at "W"
  refine W_call (show3 (hv'.less (by omega)) R (by decide) (showArgs1 _ _) fun _ => ?_)
  repeat' wtm_at "W"
  refine result_new (hv'.less (e := 0 + 2) (by omega)) fun x G' sb R' => ?_
  exact ⟨G', Sub.rfl, h x G' sb R'⟩
theorem result_of_error {wd ou : Addr} {n : Int} {t ts : Tok} {vs : List Value} {xs : List Str} {a : Addr} {name : Str} {m : Option Str} (hv : Ok v nm sc (d + 18)) (I : Has G wd 714 [("out", .ref ou), ("taken", .int n t)]) (T : IL G ou vs) (S : StrsV vs xs) (hz : (xs.map (·.length)).sum ≤ 1000) (E : Err G a name m)
    (h : ∀ x G', Sub G G' → ResH G' x "error" (raised name m) (Txt.join "" xs) n → k (.ref x) l G') : C v (.call (.ref 373) ⟨[.ref wd, .str "error" ts, .ref a], []⟩) l G k := by
  refine C_fnP hv (kf_373 _) (by kernel_rfl) [("value", .ref a), ("sort", .str "error" ts), ("world", .ref wd)] (fun S => by kernel_rfl) (by kernel_rfl) fun v' hv' hw => ?_
  refine W_Assign (x := "out") ?_ (hs := by kernel_rfl)
  repeat' wtm_at "W"
  refine W_join T S (by show _ + _ * 0 ≤ _; omega) fun t4 => ?_
  repeat' wtm_at "W"
  refine W_call (raised_spec (d := 0) (hv'.less (by omega)) E fun _ => ?_)
  repeat' wtm_at "W"
  refine result_new (hv'.less (e := 0 + 2) (by omega)) fun x G' sb R' => ?_
  exact ⟨G', Sub.rfl, h x G' sb R'⟩
end
theorem kf_37 (P) : (K P).lookup 37 = some (k37 P) := by kernel_rfl
theorem kf_59 (P) : (K P).lookup 59 = some (k59 P) := by kernel_rfl
theorem kf_79 (P) : (K P).lookup 79 = some (k79 P) := by kernel_rfl
theorem kf_98 (P) : (K P).lookup 98 = some (k98 P) := by kernel_rfl
theorem kf_137 (P) : (K P).lookup 137 = some (k137 P) := by kernel_rfl
theorem kf_178 (P) : (K P).lookup 178 = some (k178 P) := by kernel_rfl
theorem kf_218 (P) : (K P).lookup 218 = some (k218 P) := by kernel_rfl
def thingNames : List Str := ["number", "owner", "fields", "own", "frozen", "ident"]
section
variable {v : V} {l : Locs} {G : Led} {nm : Str} {sc : Scope} {d : Nat} {k : Value → Locs → Led → Prop} {pos : Pos} {env : Env}
theorem thing_init {x Cl dx : Addr} {n o : Value} (hv : Ok v nm sc (d + 1)) (I : IG G x Cl dx []) (hC : (thingNames.all fun y => storeOk (K v.w.params) Cl y) = true)
    (h : ∀ G' f, But dx G G' → IG G' x Cl dx [("number", n), ("owner", o), ("fields", .ref f), ("own", .none), ("frozen", .bool false), ("ident", .none)] → k .none l G') : C v (.call (.ref 37) ⟨[.ref x, n, o], []⟩) l G k := by
  refine C_fnP hv (kf_37 _) (by kernel_rfl) [("owner", o), ("number", n), ("self", .ref x)] (fun S => by kernel_rfl) (by kernel_rfl) fun v' hv' hw => ?_
  have st : ∀ y ∈ thingNames, storeOk (K v'.w.params) Cl y = true := by rw [hw]; exact fun y hy => List.all_eq_true.mp hC y hy
  have s1 := st "number" (by decide)
  have s2 := st "owner" (by decide)
  have s3 := st "fields" (by decide)
  have s4 := st "own" (by decide)
  have s5 := st "frozen" (by decide)
  have s6 := st "ident" (by decide)
  refine W_AssignAttr (at' := "number") ?_ (hs := by kernel_rfl)
  repeat' wtm_at "W"
  exact ⟨_, Sub.rfl, h _ _ (by assumption) (by assumption)⟩
theorem text_init {x dx : Addr} {n o : Value} {s : Str} {t : Tok} (hv : Ok v nm sc (d + 2)) (I : IG G x 62 dx [])
    (h : ∀ G', But dx G G' → HasX G' x 62 dx [("text", .str s t), ("frozen", .bool false)] [] → k .none l G') : C v (.call (.ref 59) ⟨[.ref x, n, o, .str s t], []⟩) l G k := by
  refine C_fnP hv (kf_59 _) (by kernel_rfl) [("text", .str s t), ("owner", o), ("number", n), ("self", .ref x)] (fun S => by kernel_rfl) (by kernel_rfl) fun v' hv' hw => ?_
  refine W_Expr ?_ (hi := by kernel_rfl) (hs := by kernel_rfl)
  repeat' wtm_at "W"
  refine W_clsMethod hv' (f := 37) (by kernel_rfl) ?_
  repeat' wtm_at "W"
  refine W_call (thing_init hv' I (by kernel_rfl) fun G1 f b1 I1 => ?_)
  repeat' wtm_at "W"
  rename_i I' 
  rename_i _ b2
  exact ⟨_, Sub.rfl, h _ b2 (I'.hasX (by exact Nat.le_of_ble_eq_true rfl) (reqB_cons (by wtm_at "L") (reqB_cons (by wtm_at "L") reqB_nil)) rfl)⟩
theorem list_init {x dx li : Addr} {n o : Value} (hv : Ok v nm sc (d + 2)) (I : IG G x 82 dx [])
    (h : ∀ G', But dx G G' → HasX G' x 82 dx [("items", .ref li)] [] → k .none l G') : C v (.call (.ref 79) ⟨[.ref x, n, o, .ref li], []⟩) l G k := by
  refine C_fnP hv (kf_79 _) (by kernel_rfl) [("items", .ref li), ("owner", o), ("number", n), ("self", .ref x)] (fun S => by kernel_rfl) (by kernel_rfl) fun v' hv' hw => ?_
  refine W_Expr ?_ (hi := by kernel_rfl) (hs := by kernel_rfl)
  repeat' wtm_at "W"
  refine W_clsMethod hv' (f := 37) (by kernel_rfl) ?_
  repeat' wtm_at "W"
  refine W_call (thing_init hv' I (by kernel_rfl) fun G1 f b1 I1 => ?_)
  repeat' wtm_at "W"
  rename_i I' 
  rename_i _ b2
  exact ⟨_, Sub.rfl, h _ b2 (I'.hasX (by exact Nat.le_of_ble_eq_true rfl) (reqB_cons (by wtm_at "L") reqB_nil) rfl)⟩
theorem range_init {x dx : Addr} {n o a b c : Value} (hv : Ok v nm sc (d + 2)) (I : IG G x 140 dx [])
    (h : ∀ G', But dx G G' → HasX G' x 140 dx [("first", a), ("last", b), ("open", c), ("frozen", .bool false)] [] → k .none l G') : C v (.call (.ref 137) ⟨[.ref x, n, o, a, b, c], []⟩) l G k := by
  refine C_fnP hv (kf_137 _) (by kernel_rfl) [("is_open", c), ("last", b), ("first", a), ("owner", o), ("number", n), ("self", .ref x)] (fun S => by kernel_rfl) (by kernel_rfl) fun v' hv' hw => ?_
  refine W_Expr ?_ (hi := by kernel_rfl) (hs := by kernel_rfl)
  repeat' wtm_at "W"
  refine W_clsMethod hv' (f := 37) (by kernel_rfl) ?_
  repeat' wtm_at "W"
  refine W_call (thing_init hv' I (by kernel_rfl) fun G1 f b1 I1 => ?_)
  repeat' wtm_at "W"
  rename_i I' 
  rename_i _ b2
  exact ⟨_, Sub.rfl, h _ b2 (I'.hasX (by exact Nat.le_of_ble_eq_true rfl) (reqB_cons (by wtm_at "L") (reqB_cons (by wtm_at "L") (reqB_cons (by wtm_at "L") (reqB_cons (by wtm_at "L") reqB_nil)))) rfl)⟩
theorem error_init {x dx : Addr} {n o a : Value} (hv : Ok v nm sc (d + 2)) (I : IG G x 181 dx [])
    (h : ∀ G', But dx G G' → HasX G' x 181 dx [("owner", o), ("message", a)] [] → k .none l G') : C v (.call (.ref 178) ⟨[.ref x, n, o, a], []⟩) l G k := by
  refine C_fnP hv (kf_178 _) (by kernel_rfl) [("message", a), ("owner", o), ("number", n), ("self", .ref x)] (fun S => by kernel_rfl) (by kernel_rfl) fun v' hv' hw => ?_
  refine W_Expr ?_ (hi := by kernel_rfl) (hs := by kernel_rfl)
  repeat' wtm_at "W"
  refine W_clsMethod hv' (f := 37) (by kernel_rfl) ?_
  repeat' wtm_at "W"
  refine W_call (thing_init hv' I (by kernel_rfl) fun G1 f b1 I1 => ?_)
  repeat' wtm_at "W"
  rename_i I' 
  rename_i _ b2
  exact ⟨_, Sub.rfl, h _ b2 (I'.hasX (by exact Nat.le_of_ble_eq_true rfl) (reqB_cons (by wtm_at "L") (reqB_cons (by wtm_at "L") reqB_nil)) rfl)⟩
theorem table_init {x dx : Addr} {n o : Value} (hv : Ok v nm sc (d + 2)) (I : IG G x 120 dx [])
    (h : ∀ G' f n0, But dx G G' → (f, dictOf [] n0) ∈ G' → (f == sysModules) = false → (∀ p ∈ G, p.1 < f) → HasX G' x 120 dx [("rows", .ref f)] ["put", "pairs"] → k .none l G') : C v (.call (.ref 98) ⟨[.ref x, n, o], []⟩) l G k := by
  refine C_fnP hv (kf_98 _) (by kernel_rfl) [("owner", o), ("number", n), ("self", .ref x)] (fun S => by kernel_rfl) (by kernel_rfl) fun v' hv' hw => ?_
  refine W_Expr ?_ (hi := by kernel_rfl) (hs := by kernel_rfl)
  repeat' wtm_at "W"
  refine W_clsMethod hv' (f := 37) (by kernel_rfl) ?_
  repeat' wtm_at "W"
  refine W_call (thing_init hv' I (by kernel_rfl) fun G1 f1 b1 I1 => ?_)
  refine W_AssignAttr (at' := "rows") ?_ (hs := by kernel_rfl)
  refine W_Dict0 hv' fun f of ltf sd df => ?_
  wtm_at "W"
  refine W_setfield hv' (I1.sub Sub.cons) (by kernel_rfl) (by wtm_at "SF") (by exact Nat.le_of_ble_eq_true rfl) fun G3 b3 I3 => ?_
  repeat' wtm_at "W"
  rename_i I'
  rename_i _ b4
  obtain ⟨es, n0, rfl, fl⟩ := df
  cases fl
  obtain ⟨odx, hdx⟩ : ∃ o, (dx, o) ∈ G1 := let ⟨_, _, _, m, _⟩ := I1; ⟨_, m⟩
  refine ⟨_, Sub.rfl, h _ f n0 (fun p hp ne => b4 p (.tail _ (b1 p hp ne)) ne) (b4 _ (.head _) (Nat.ne_of_gt (ltf _ hdx))) (let ⟨_, _, _, lo⟩ := sd; lo) (fun p hp => ?_) (I'.hasX (by exact Nat.le_of_ble_eq_true rfl) (reqB_cons (by wtm_at "L") reqB_nil) rfl)⟩
  by_cases e : p.1 = dx
  · rw [e]; exact ltf _ hdx
  · exact ltf p (b1 p hp e)
def ModArgs (P : Params) (args : PySem.Args) (x : Addr) (n o nv ic pa ou : Value) : Prop := ∀ S, peek (K P) S (bindArgs (fnOf "__init__" "ModuleThing.__init__" (fargs (clsS 13 0)) (fbody (clsS 13 0)) (fscope (clsS 13 0)) (.ref 211) .none .none (.str "gemrows.things" 194) none (.ref 217) .none) args) = some ([("self", .ref x), ("number", n), ("owner", o), ("name", nv), ("is_class", ic), ("parent", pa), ("outer", ou)] : Locs)
theorem modArgs1 (P x n o nv ic) : ModArgs P ⟨[.ref x, n, o, nv, ic], []⟩ x n o nv ic .none .none := fun S => by kernel_rfl
theorem modArgs2 (P x n o nv ic pa ou) : ModArgs P ⟨[.ref x, n, o, nv, ic, pa, ou], []⟩ x n o nv ic pa ou := fun S => by kernel_rfl
theorem mod_init {x dx : Addr} {n o nv ic pa ou : Value} {args : PySem.Args} (hv : Ok v nm sc (d + 2)) (ha : ModArgs v.w.params args x n o nv ic pa ou) (I : IG G x 228 dx [])
    (h : ∀ G' m, But dx G G' → HasX G' x 228 dx [("number", n), ("owner", o), ("name", nv), ("parent", pa), ("outer", ou), ("mixed", .ref m), ("attached", .none), ("native", .none)] [] → k .none l G') : C v (.call (.ref 218) args) l G k := by
  refine C_fnP hv (kf_218 _) (by kernel_rfl) [("outer", ou), ("parent", pa), ("is_class", ic), ("name", nv), ("owner", o), ("number", n), ("self", .ref x)] ha (by kernel_rfl) fun v' hv' hw => ?_
  refine W_Expr ?_ (hi := by kernel_rfl) (hs := by kernel_rfl)
  repeat' wtm_at "W"
  refine W_clsMethod hv' (f := 37) (by kernel_rfl) ?_
  repeat' wtm_at "W"
  refine W_call (thing_init hv' I (by kernel_rfl) fun G1 f b1 I1 => ?_)
  repeat' wtm_at "W"
  rename_i I'
  rename_i _ b2
  exact ⟨_, Sub.rfl, h _ _ b2 (I'.hasX (by exact Nat.le_of_ble_eq_true rfl) (reqB_cons (by wtm_at "L") (reqB_cons (by wtm_at "L") (reqB_cons (by wtm_at "L") (reqB_cons (by wtm_at "L") (reqB_cons (by wtm_at "L") (reqB_cons (by wtm_at "L") (reqB_cons (by wtm_at "L") (reqB_cons (by wtm_at "L") reqB_nil)))))))) rfl)⟩
end
theorem kf_495 (P) : (K P).lookup 495 = some (k495 P) := by kernel_rfl
theorem kf_528 (P) : (K P).lookup 528 = some (k528 P) := by kernel_rfl
structure WP where
  wd : Addr
  dw : Addr
  dm : Addr
  na : Addr
  pr : Addr
  ou : Addr
def wno : List Str := ["tick", "write", "number", "builtin", "make_builtin", "give_own", "new_module", "class_of", "text", "list_of", "table_of", "key_of", "range_of"]
def wnoOf : Bool → List Str
  | true => wno
  | false => "main" :: wno
theorem wnoIn {x : Str} {r : Bool} (h : x ∈ wno) : x ∈ wnoOf r := by cases r; exact .tail _ h; exact h
abbrev wreq (p : WP) (tk num most : Value) (ready : Bool) : Locs := [("natives", .ref p.na), ("prelude", .ref p.pr), ("most", most), ("taken", tk), ("last_number", num), ("made", .ref p.dm), ("out", .ref p.ou), ("is_ready", .bool ready)]
/-- the classes that are asked for, and their parents -/
def parL : List (Str × Option Str) := [("BasicObject", none), ("Object", some "BasicObject"), ("Module", some "Object"), ("Class", some "Module"), ("Kernel", none), ("Comparable", none), ("Enumerable", none), ("Numeric", some "Object"), ("Integer", some "Numeric"), ("String", some "Object"), ("Array", some "Object"), ("Hash", some "Object"), ("Range", some "Object"),
  ("Exception", some "Object"), ("StandardError", some "Exception"), ("IndexError", some "StandardError"), ("KeyError", some "IndexError"), ("TypeError", some "StandardError")]
abbrev modReq (num : Value) (name : Value) (out : Value) : Locs := [("attached", .none), ("name", name), ("outer", out), ("number", num)]
def ModOk (Z : Led) (a : Addr) (name : Str) (n : Int) : Prop := ∃ t tn, Has Z a 228 (modReq (.int n tn) (.str name t) .none)
theorem ModOk.sub {Z Z' : Led} {a : Addr} {name : Str} {n : Int} (h : ModOk Z a name n) (s : Sub Z Z') : ModOk Z' a name n := let ⟨t, tn, h⟩ := h; ⟨t, tn, h.sub s⟩
/-- the world: its names and numbers, the modules made so far -/
structure WS (w : World) (p : WP) (S : List Addr) (tk : Int) (ready : Bool) (pend : List Str) (G Z : Led) (num : Int) (ms : List (Str × Value)) : Prop where
  hx : ∃ tt tn tm, HasX G p.wd 714 p.dw (wreq p (.int tk tt) (.int num tn) (.int 500 tm) ready) (wnoOf ready)
  sm : SD w G p.dm ms
  sn : SD w G p.na []
  sp : SD w G p.pr []
  st : Still S G Z
  ok : p.dw ∈ S ∧ p.dm ∈ S ∧ p.wd ∉ S ∧ p.na ∉ S ∧ p.pr ∉ S ∧ p.dm ≠ p.dw
  ml : ∀ q ∈ ms, q.1 ∈ parL.map (·.1) ∧ ∃ a, q.2 = .ref a ∧ (q.1 ∉ pend → ∃ n, ModOk Z a q.1 n ∧ n ≤ num)
  hi : ∀ a ∈ S, 770 < a
theorem ne_of_mem {S : List Addr} {a b : Addr} (h : a ∈ S) (h' : b ∉ S) : b ≠ a := fun e => h' (e ▸ h)
theorem SD.nodup {w : World} {G : Led} {a : Addr} {kvs : List (Str × Value)} (h : SD w G a kvs) : (kvs.map (·.1)).Nodup := let ⟨_, _, ⟨_, _, _, _, _, _, n⟩, _⟩ := h; n
section
variable {w : World} {p : WP} {S : List Addr} {tk : Int} {ready : Bool} {pend : List Str} {G Z : Led} {num : Int} {ms : List (Str × Value)}
theorem WS.sub {G' : Led} (T : WS w p S tk ready pend G Z num ms) (s : Sub G G') : WS w p S tk ready pend G' Z num ms :=
  ⟨let ⟨a, b, c, h⟩ := T.hx; ⟨a, b, c, h.sub s⟩, T.sm.sub s, T.sn.sub s, T.sp.sub s, T.st.sub s, T.ok, T.ml, T.hi⟩
theorem WS.but {G' : Led} {a : Addr} (T : WS w p S tk ready pend G Z num ms) (b : But a G G') (h : a ∉ S ∧ a ≠ p.wd ∧ a ≠ p.na ∧ a ≠ p.pr) (hz : ∀ q ∈ Z, q.1 ≠ a) : WS w p S tk ready pend G' Z num ms := by
  obtain ⟨h1, h2, h3, h4⟩ := h
  obtain ⟨o1, o2, o3, o4, o5, o6⟩ := T.ok
  refine ⟨let ⟨x, y, z, h⟩ := T.hx; ⟨x, y, z, h.but b (Ne.symm h2) (Ne.symm (ne_of_mem o1 h1))⟩, T.sm.but b (Ne.symm (ne_of_mem o2 h1)), T.sn.but b (Ne.symm h3), T.sp.but b (Ne.symm h4), ⟨fun q hq => b q (T.st.zg q hq) (hz q hq), T.st.ap, fun c hc => ?_⟩, T.ok, T.ml, T.hi⟩
  obtain ⟨o, m⟩ := T.st.at' c hc
  exact ⟨o, b _ m (ne_of_mem hc h1).symm⟩
theorem WS.freshA {a : Addr} (T : WS w p S tk ready pend G Z num ms) (lt : ∀ q ∈ G, q.1 < a) : (a ∉ S ∧ a ≠ p.wd ∧ a ≠ p.na ∧ a ≠ p.pr) ∧ ∀ q ∈ Z, q.1 ≠ a := by
  refine ⟨⟨fun h => ?_, ?_, ?_, ?_⟩, fun q hq => Nat.ne_of_lt (lt q (T.st.zg q hq))⟩
  · obtain ⟨o, m⟩ := T.st.at' _ h
    exact Nat.lt_irrefl _ (lt _ m)
  · obtain ⟨_, _, _, _, ⟨m, _⟩, _⟩ := T.hx
    exact Nat.ne_of_gt (lt _ m)
  · obtain ⟨o, m⟩ := T.sn.mem
    exact Nat.ne_of_gt (lt _ m)
  · obtain ⟨o, m⟩ := T.sp.mem
    exact Nat.ne_of_gt (lt _ m)
theorem WS.num' {G' : Led} {tk' num' : Int} {ready' : Bool} (T : WS w p S tk ready pend G Z num ms) (b : But p.dw G G') (le : num ≤ num') (h : ∃ tt tn tm, HasX G' p.wd 714 p.dw (wreq p (.int tk' tt) (.int num' tn) (.int 500 tm) ready') (wnoOf ready')) : WS w p S tk' ready' pend G' Z num' ms := by
  obtain ⟨o1, o2, o3, o4, o5, o6⟩ := T.ok
  exact ⟨h, T.sm.but b o6, T.sn.but b (ne_of_mem o1 o4), T.sp.but b (ne_of_mem o1 o5), T.st.but b o1 (let ⟨_, _, _, h⟩ := h; h.mem), T.ok, fun q hq => let ⟨h1, a, h2, h3⟩ := T.ml q hq; ⟨h1, a, h2, fun hp => let ⟨n, h4, h5⟩ := h3 hp; ⟨n, h4, Int.le_trans h5 le⟩⟩, T.hi⟩
theorem WS.put {G' : Led} {ms' : List (Str × Value)} {pend' : List Str} (T : WS w p S tk ready pend G Z num ms) (b : But p.dm G G') (s : SD w G' p.dm ms') (h : ∀ q ∈ ms', q.1 ∈ parL.map (·.1) ∧ ∃ a, q.2 = .ref a ∧ (q.1 ∉ pend' → ∃ n, ModOk Z a q.1 n ∧ n ≤ num)) : WS w p S tk ready pend' G' Z num ms' := by
  obtain ⟨o1, o2, o3, o4, o5, o6⟩ := T.ok
  exact ⟨let ⟨x, y, z, h⟩ := T.hx; ⟨x, y, z, h.but b (ne_of_mem o2 o3) (Ne.symm o6)⟩, s, T.sn.but b (ne_of_mem o2 o4), T.sp.but b (ne_of_mem o2 o5), T.st.but b o2 s.mem, T.ok, h, T.hi⟩
theorem WS.msl (T : WS w p S tk ready pend G Z num ms) : ms.length ≤ 18 := by
  have := nodup_len (ms.map (·.1)) (parL.map (·.1)) T.sm.nodup fun x hx => by
    obtain ⟨q, hq, rfl⟩ := List.mem_map.mp hx
    exact (T.ml q hq).1
  rw [List.length_map] at this
  exact this
end
section
variable {v : V} {l : Locs} {G Z : Led} {nm : Str} {sc : Scope} {d : Nat} {k : Value → Locs → Led → Prop} {pos : Pos} {env : Env} {w : World} {p : WP} {S : List Addr} {tk : Int} {ready : Bool} {pend : List Str} {num : Int} {ms : List (Str × Value)}
theorem number_spec (hv : Ok v nm sc (d + 1)) (T : WS w p S tk ready pend G Z num ms) (h : ∀ t G', But p.dw G G' → WS w p S tk ready pend G' Z (num + 1) ms → k (.int (num + 1) t) l G') : C v (.call (.ref 495) ⟨[.ref p.wd], []⟩) l G k := by
  refine C_fnP hv (kf_495 _) (by kernel_rfl) [("self", .ref p.wd)] (fun S => by kernel_rfl) (by kernel_rfl) fun v' hv' hw => ?_
  obtain ⟨tt, tn, tm, I⟩ := T.hx
  have I1 := I.has
  refine W_AugAttr ?_
  repeat' wtm_at "W"
  refine W_setX hv' I But.rfl (by kernel_rfl) (by wtm_at "L") (by wtm_at "SF") fun G' b I' => ?_
  have I2 := I'.has
  refine W_ret ?_
  repeat' wtm_at "W"
  exact ⟨_, Sub.rfl, h _ G' b (T.num' b (by omega) ⟨_, _, _, I'⟩)⟩
theorem give_own_spec {name : Str} {t : Tok} (hw : v.w = w) (hv : Ok v nm sc (d + 1)) (hl : name.length ≤ 100) (T : WS w p S tk ready pend G Z num ms) (h : k .none l G) : C v (.call (.ref 528) ⟨[.ref p.wd, .str name t], []⟩) l G k := by
  refine C_fnP hv (kf_528 _) (by kernel_rfl) [("name", .str name t), ("self", .ref p.wd)] (fun S => by kernel_rfl) (by kernel_rfl) fun v' hv' hw' => ?_
  have hw2 := hw'.trans hw
  obtain ⟨tt, tn, tm, I⟩ := T.hx
  have I1 := I.has
  refine W_If ?_
  repeat' wtm_at "W"
  refine W_adds (by rw [sizeLine_eq]; show _ + 1 ≤ _; omega) fun _ => ?_
  repeat' wtm_at "W"
  refine W_din hw2 T.sn.dd ?_
  repeat' wtm_at "W"
  with_reducible refine itF (by with_unfolding_all rfl) ?_
  repeat' wtm_at "W"
  refine W_adds (by rw [sizeLine_eq]; show _ + 1 ≤ _; omega) fun _ => ?_
  repeat' wtm_at "W"
  refine W_din hw2 T.sp.dd ?_
  repeat' wtm_at "W"
  with_reducible refine itF (by with_unfolding_all rfl) ?_
  repeat' wtm_at "W"
  exact ⟨_, Sub.rfl, h⟩
end
theorem kf_516 (P) : (K P).lookup 516 = some (k516 P) := by kernel_rfl
theorem kf_521 (P) : (K P).lookup 521 = some (k521 P) := by kernel_rfl
theorem kf_447 (P) : (K P).lookup 447 = some (k447 P) := by kernel_rfl
theorem kf_448 (P) : (K P).lookup 448 = some (k448 P) := by kernel_rfl
theorem kf_451 (P) : (K P).lookup 451 = some (k451 P) := by kernel_rfl
def modL : List Str := ["Kernel", "Comparable", "Enumerable"]
def mixL : List (Str × Str) := [("Object", "Kernel"), ("Numeric", "Comparable"), ("String", "Comparable"), ("Array", "Enumerable"), ("Hash", "Enumerable"), ("Range", "Enumerable")]
theorem mods_strs (P) : StrsV (seqOf (k447 P)) modL := strsV_of (by kernel_rfl)
def parVB : Option Value → Option Str → Bool
  | some .none, none => true
  | some (.str y _), some z => y == z
  | _, _ => false
def parB (rows : List DRow) : Bool := parL.all fun q => parVB (valueAt (rows.map fun r => (r.1, r.2.2)) q.1) q.2
def mixVB (K : Frag) : Option Value → Option Str → Bool
  | none, none => true
  | some (.ref a), some m => match K.lookup a with
    | some ⟨.type "tuple", _, .seq xs _, _⟩ => strsB xs.toList [m]
    | _ => false
  | _, _ => false
def mixB (K : Frag) (rows : List DRow) : Bool := parL.all fun q => mixVB K (valueAt (rows.map fun r => (r.1, r.2.2)) q.1) (mixL.lookup q.1)
def ownerOf (x : Str) : Str := if modL.any (· == x) then "Module" else "Class"
def Ext (ms ms' : List (Str × Value)) : Prop := ∀ n u, valueAt ms n = some u → valueAt ms' n = some u
theorem Ext.rfl {ms : List (Str × Value)} : Ext ms ms := fun _ _ h => h
theorem Ext.trans {a b c : List (Str × Value)} (h : Ext a b) (k : Ext b c) : Ext a c := fun n u e => k n u (h n u e)
theorem K_le {P : Params} {a : Addr} {o : Obj} (h : (K P).lookup a = some o) : a ≤ 770 := by
  have gen : ∀ (l : Frag) (o : Obj), l.lookup a = some o → a ∈ l.map (·.1) := by
    intro l
    induction l with
    | nil => intro o h; cases h
    | cons p r ih =>
      intro o h
      rw [List.lookup_cons] at h
      split at h
      · rename_i e
        rw [eq_of_beq e]; exact .head _
      · exact .tail _ (ih o h)
  have h2 : a ∈ kas := gen (K P) o h
  have h3 : ∀ a ∈ kas, a ≤ 770 := by decide
  exact h3 a h2
theorem strsB_len : ∀ {vs : List Value} {ys : List Str}, strsB vs ys = true → vs.length = ys.length
  | [], [], _ => rfl
  | .str x _ :: vs, y :: ys, h => by
    unfold strsB at h
    rw [Bool.and_eq_true] at h
    rw [List.length_cons, List.length_cons, strsB_len h.2]
theorem nodup_at {ms : List (Str × Value)} {q : Str × Value} (hn : (ms.map (·.1)).Nodup) (hq : q ∈ ms) : valueAt ms q.1 = some q.2 := by
  obtain ⟨i, hi⟩ := List.mem_iff_getElem?.mp hq
  exact valueAt_of_get hn hi
theorem parL_len : ∀ q ∈ parL, q.1.length ≤ 100 := by decide
theorem modReq_sub {n : Str} {w : Value} {num o name pa mx nat : Value} (h : List.lookup n (modReq num name .none) = some w) : List.lookup n ([("number", num), ("owner", o), ("name", name), ("parent", pa), ("outer", .none), ("mixed", mx), ("attached", .none), ("native", nat)] : Locs) = some w := by
  have hm := lookup_mem h
  unfold modReq at hm
  simp only [List.mem_cons, Prod.mk.injEq, List.not_mem_nil, or_false] at hm
  rcases hm with ⟨rfl, rfl⟩ | ⟨rfl, rfl⟩ | ⟨rfl, rfl⟩ | ⟨rfl, rfl⟩ <;> rfl
theorem NL.grow {S : List Addr} {G Z G' Z' : Led} {C : Addr} {lc : Locs} (T : NL G C lc) (g : Grow S G Z G' Z') (h : C ∉ S) : NL G' C lc := let ⟨o, es, ep, m, r⟩ := T; ⟨o, es, ep, g.but _ m h, r⟩
theorem StrsV.get : ∀ {vs : List Value} {xs : List Str} {i : Nat} {u : Value}, StrsV vs xs → vs[i]? = some u → ∃ y t, u = .str y t ∧ xs[i]? = some y
  | _, _, 0, _, .cons (x := x) (t := t) _, h => by
    cases h; exact ⟨x, t, rfl, rfl⟩
  | _, _, i + 1, _, .cons r, h => StrsV.get (i := i) r h
/-- within make_builtin: the module m is put down under x, and not yet whole -/
structure MC (w : World) (p : WP) (S : List Addr) (tk : Int) (ready : Bool) (pend : List Str) (G0 Z0 : Led) (num0 : Int) (ms0 : List (Str × Value)) (x : Str) (m dx cA : Addr) (oc : Obj) (rq : Locs) (G Z : Led) (num : Int) (ms : List (Str × Value)) : Prop where
  T : WS w p S tk ready (x :: pend) G Z num ms
  I : HasX G m 228 dx rq []
  g : Grow [p.dw, p.dm] G0 Z0 G Z
  le : num0 + 1 ≤ num
  ext : Ext ms0 ms
  at' : valueAt ms x = some (.ref m)
  cell : (cA, oc) ∈ G
  zx : ∀ q ∈ Z, q.1 ≠ dx
  new : m ∉ S ∧ dx ∉ S ∧ cA ∉ S ∧ m ≠ dx ∧ cA ≠ dx ∧ dx ≠ p.wd ∧ dx ≠ p.na ∧ dx ≠ p.pr ∧ ∀ q ∈ G0, q.1 < dx
section
variable {w : World} {p : WP} {S : List Addr} {tk : Int} {ready : Bool} {pend : List Str} {G0 Z0 : Led} {num0 : Int} {ms0 : List (Str × Value)} {x : Str} {m dx cA : Addr} {oc : Obj} {rq : Locs} {G Z : Led} {num : Int} {ms : List (Str × Value)}
theorem MC.grow {G' Z' : Led} {num' : Int} {ms' : List (Str × Value)} (M : MC w p S tk ready pend G0 Z0 num0 ms0 x m dx cA oc rq G Z num ms) (T : WS w p S tk ready (x :: pend) G' Z' num' ms') (g : Grow [p.dw, p.dm] G Z G' Z') (le : num ≤ num') (ext : Ext ms ms') : MC w p S tk ready pend G0 Z0 num0 ms0 x m dx cA oc rq G' Z' num' ms' := by
  obtain ⟨n1, n2, n3, n4⟩ := M.new
  obtain ⟨o1, o2, _⟩ := M.T.ok
  have ap : ∀ a, a ∉ S → a ∉ [p.dw, p.dm] := fun a h hm => by
    rcases List.mem_cons.mp hm with rfl | hm
    · exact h o1
    · have : a = p.dm := by simpa using hm
      subst this
      exact h o2
  refine ⟨T, M.I.grow g (ap _ n1) (ap _ n2), M.g.trans g, Int.le_trans M.le le, M.ext.trans ext, ext _ _ M.at', g.but _ M.cell (ap _ n3), fun q hq => ?_, M.new⟩
  rcases g.new q hq with h | h
  · exact M.zx q h
  · obtain ⟨o, hm⟩ := M.I.mem
    exact Nat.ne_of_gt (h _ hm)
theorem MC.set {G' : Led} {rq' : Locs} (M : MC w p S tk ready pend G0 Z0 num0 ms0 x m dx cA oc rq G Z num ms) (b : But dx G G') (I : HasX G' m 228 dx rq' []) : MC w p S tk ready pend G0 Z0 num0 ms0 x m dx cA oc rq' G' Z num ms := by
  obtain ⟨n1, n2, n3, n4, n5, n6, n7, n8, n9⟩ := M.new
  exact ⟨M.T.but b ⟨n2, n6, n7, n8⟩ M.zx, I, M.g.fresh b n9, M.le, M.ext, M.at', b _ M.cell n5, M.zx, M.new⟩
theorem MC.but {G' : Led} {a : Addr} (M : MC w p S tk ready pend G0 Z0 num0 ms0 x m dx cA oc rq G Z num ms) {Gb Zb : Led} {nb : Int} {mb : List (Str × Value)} (Mb : MC w p S tk ready pend G0 Z0 num0 ms0 x m dx cA oc rq Gb Zb nb mb) (b : But a G G') (lt : ∀ q ∈ Gb, q.1 < a) (hz : ∀ q ∈ Z, q.1 ≠ a) : MC w p S tk ready pend G0 Z0 num0 ms0 x m dx cA oc rq G' Z num ms := by
  have h1 := (Mb.T.freshA lt).1
  obtain ⟨fs, ⟨m1, es, n, m2, fl⟩, r⟩ := Mb.I
  exact ⟨M.T.but b h1 hz, M.I.but b (Nat.ne_of_lt (lt _ m1)) (Nat.ne_of_lt (lt _ m2)), M.g.fresh b (Mb.g.lt lt), M.le, M.ext, M.at', b _ M.cell (Nat.ne_of_lt (lt _ Mb.cell)), M.zx, M.new⟩
theorem MC.sub {G' : Led} (M : MC w p S tk ready pend G0 Z0 num0 ms0 x m dx cA oc rq G Z num ms) (s : Sub G G') : MC w p S tk ready pend G0 Z0 num0 ms0 x m dx cA oc rq G' Z num ms := ⟨M.T.sub s, M.I.sub s, M.g.sub s, M.le, M.ext, M.at', s _ M.cell, M.zx, M.new⟩
end
/-- what is promised of world.builtin(x), where the names of need are made -/
def BOk (D : Nat) (x : Str) (need : List Str) : Prop := ∀ {v : V} {nm : Str} {sc : Scope} {l : Locs} {G Z : Led} {k : Value → Locs → Led → Prop} {w : World} {p : WP} {S : List Addr} {tk : Int} {ready : Bool} {pend : List Str} {num : Int} {ms : List (Str × Value)} {t : Tok}, v.w = w → Ok v nm sc D → WS w p S tk ready pend G Z num ms →
  (∀ n ∈ need, ∃ a, valueAt ms n = some (.ref a)) →
  (∀ a G' Z' num' ms', WS w p S tk ready pend G' Z' num' ms' → Grow [p.dw, p.dm] G Z G' Z' → num ≤ num' → Ext ms ms' → valueAt ms' x = some (.ref a) → k (.ref a) l G') → C v (.call (.ref 516) ⟨[.ref p.wd, .str x t], []⟩) l G k
section
variable {v : V} {l : Locs} {G Z : Led} {nm : Str} {sc : Scope} {d : Nat} {k : Value → Locs → Led → Prop} {pos : Pos} {env : Env} {w : World} {p : WP} {S : List Addr} {tk : Int} {ready : Bool} {pend : List Str} {num : Int} {ms : List (Str × Value)}
theorem dd448 (hv : Ok v nm sc d) : ∃ rows : List DRow, parB rows = true ∧ DD v.w v G 448 (rows.map fun r => (r.1, r.2.2)) := ⟨_, by kernel_rfl, kdd hv rfl (kf_448 _) (by rfl) (by decide)⟩
theorem dd451 (hv : Ok v nm sc d) : ∃ rows : List DRow, mixB (K v.w.params) rows = true ∧ DD v.w v G 451 (rows.map fun r => (r.1, r.2.2)) := ⟨_, by kernel_rfl, kdd hv rfl (kf_451 _) (by rfl) (by decide)⟩
theorem BOk.found {D : Nat} {x : Str} {need : List Str} (h : x ∈ need) : BOk (D + 1) x need := by
  intro v nm sc l G Z k w p S tk ready pend num ms t hw hv T hn c
  refine C_fnP hv (kf_516 _) (by kernel_rfl) [("name", .str x t), ("self", .ref p.wd)] (fun S => by kernel_rfl) (by kernel_rfl) fun v' hv' hw' => ?_
  obtain ⟨a, ha⟩ := hn x h
  obtain ⟨tt, tn, tm, I⟩ := T.hx
  have I1 := I.has
  refine W_Assign (x := "found") ?_ (hs := by kernel_rfl)
  repeat' wtm_at "W"
  refine W_m_dget T.sm.dd ?_
  repeat' wtm_at "W"
  refine W_dget (hw'.trans hw) T.sm.dd ?_
  rw [ha]
  repeat' wtm_at "W"
  exact ⟨_, Sub.rfl, c a _ _ _ _ T Grow.refl (Int.le_refl _) Ext.rfl ha⟩
theorem make_spec {D : Nat} {x : Str} {par : Option Str} {need : List Str} {t : Tok} (hx : (x, par) ∈ parL) (hD : 4 ≤ D) (hp : ∀ y, par = some y → BOk D y (x :: need)) (ho : BOk D (ownerOf x) (x :: need)) (hm : ∀ m, mixL.lookup x = some m → BOk D m (x :: need))
    (hw : v.w = w) (hv : Ok v nm sc (D + 1)) (T : WS w p S tk ready pend G Z num ms) (hn : ∀ n ∈ need, ∃ a, valueAt ms n = some (.ref a)) (hnew : valueAt ms x = none)
    (c : ∀ a G' Z' num' ms', WS w p S tk ready pend G' Z' num' ms' → Grow [p.dw, p.dm] G Z G' Z' → num ≤ num' → Ext ms ms' → valueAt ms' x = some (.ref a) → k (.ref a) l G') : C v (.call (.ref 521) ⟨[.ref p.wd, .str x t], []⟩) l G k := by
  refine C_fnC' (c := "self") hv (kf_521 _) (by kernel_rfl) (binds := [("self", .ref p.wd), ("name", .str x t)]) (fun S => by kernel_rfl) (by kernel_rfl) [("name", .str x t)] (some (.ref p.wd)) (by rfl) (by rfl) fun v' cA oc hv' hw' hcl hoc hlt => ?_
  have hcell : v'.cl.lookup ("self" : Str) = some cA := by rw [hcl]; rfl
  have hw2 := hw'.trans hw
  have T0 := T
  have T := T.sub (Sub.cons (p := (cA, oc)))
  obtain ⟨tt, tn, tm, I⟩ := T.hx
  refine W_Assign (x := "is_class") ?_ (hs := by kernel_rfl)
  repeat' wtm_at "W"
  refine W_notin_K hv' (kf_447 _) (by rfl) (by rfl) (mods_strs v'.w.params) ?_
  repeat' wtm_at "W"
  refine W_methodX hv' I (f := 495) (by kernel_rfl) (by first | exact wnoIn (by decide) | decide) ?_
  repeat' wtm_at "W"
  refine W_call (number_spec (hv'.less (e := 0 + 1) (by omega)) T fun tn1 G1 b1 T1 => ?_)
  repeat' wtm_at "W"
  refine W_newI (d := 2) (hv'.less (by omega)) (fI := 218) (by kernel_rfl) (by kernel_rfl) (by kernel_rfl) fun v2 m dx G2 hv2 hw3 lx1 lx2 sb2 I2 low2 => ?_
  refine mod_init (d := 0) hv2 (modArgs1 _ _ _ _ _ _) I2 fun G3 mx b3 I3 => ⟨rfl, ?_⟩
  refine W_store hv' ?_ (by kernel_rfl)
  have fdx := T1.freshA lx1
  have fm := T1.freshA fun q hq => Nat.lt_trans (lx1 q hq) lx2
  have T3 := (T1.sub sb2).but b3 fdx.1 fdx.2
  have old : ∀ a ∈ S, a < cA := fun a h => let ⟨o, m⟩ := T0.st.at' a h; hlt _ m
  obtain ⟨o1, o2, o3, o4, o5, o6⟩ := T.ok
  have cAS : cA ∉ S := fun h => Nat.lt_irrefl _ (old _ h)
  have cA1 : (cA, oc) ∈ G1 := b1 _ (.head _) (Nat.ne_of_gt (old _ o1))
  have cA3 : (cA, oc) ∈ G3 := b3 _ (sb2 _ cA1) (Nat.ne_of_lt (lx1 _ cA1))
  obtain ⟨tt3, tn3, tm3, IW3⟩ := T3.hx
  have H3 := IW3.has
  refine W_AssignSub ?_ (hs := by kernel_rfl)
  repeat' wtm_at "W"
  refine W_dset hw2 T3.sm (by have := T3.msl; rw [sizeLine_eq]; omega) fun G4 b4 s4 => ?_
  rw [valueAt_stored_new hnew] at s4
  have g1 : Grow [p.dw, p.dm] G Z G1 Z := (Grow.ofSub Sub.cons).trans (Grow.ofBut b1 (.head _) (let ⟨_, _, _, h⟩ := T1.hx; h.mem))
  have g4 : Grow [p.dw, p.dm] G Z G4 Z := ((g1.sub sb2).fresh b3 (g1.lt lx1)).trans (Grow.ofBut b4 (.tail _ (.head _)) s4.mem)
  have M4 : MC w p S tk ready pend G Z num ms x m dx cA oc _ G4 Z (num + 1) (ms ++ [(x, .ref m)]) :=
    { T := T3.put b4 s4 fun q hq => by
        rcases List.mem_append.mp hq with hq | hq
        · obtain ⟨h1, a, h2, h3⟩ := T3.ml q hq
          exact ⟨h1, a, h2, fun hp => h3 fun hp' => hp (.tail _ hp')⟩
        · have : q = (x, .ref m) := by simpa using hq
          subst this
          exact ⟨List.mem_map.mpr ⟨_, hx, rfl⟩, m, rfl, fun hp => absurd (.head _) hp⟩
      I := I3.but b4 (fun e => fm.1.1 (e ▸ o2)) (fun e => fdx.1.1 (e ▸ o2))
      g := g4
      le := Int.le_refl _
      ext := fun _ _ e => valueAt_app e
      at' := valueAt_new hnew
      cell := b4 _ cA3 (fun e => cAS ((show cA = p.dm from e) ▸ o2))
      zx := fdx.2
      new := ⟨fm.1.1, fdx.1.1, cAS, Nat.ne_of_gt lx2, Nat.ne_of_lt (lx1 _ cA1), fdx.1.2.1, fdx.1.2.2.1, fdx.1.2.2.2, g1.lt lx1⟩ }
  refine W_AssignAttr ?_ (hs := by kernel_rfl)
  repeat' wtm_at "W"
  refine W_setX hv' M4.I But.rfl (by kernel_rfl) (by wtm_at "L") (by wtm_at "SF") fun G5 b5 I5 => ?_
  have M5 := M4.set b5 I5
  have cA5 := M5.cell
  refine W_Assign (x := "parent") ?_ (hs := by kernel_rfl)
  repeat' wtm_at "W"
  obtain ⟨rows, hrows, D48⟩ := dd448 (G := G5) hv'
  have hpar := List.all_eq_true.mp hrows _ hx
  dsimp only at hpar
  have calls : ∀ {rq : Locs} {G' Z' : Led} {num' : Int} {ms' : List (Str × Value)} {y : Str} {ty : Tok} {l1 : Locs} {kk : Value → Locs → Led → Prop}, BOk D y (x :: need) → MC w p S tk ready pend G Z num ms x m dx cA oc rq G' Z' num' ms' →
      (∀ a G'' Z'' num'' ms'', MC w p S tk ready pend G Z num ms x m dx cA oc rq G'' Z'' num'' ms'' → Grow [p.dw, p.dm] G' Z' G'' Z'' → kk (.ref a) l1 G'') → W v' (call (.ref 516) [.ref p.wd, .str y ty]) l1 G' kk := by
    intro rq G' Z' num' ms' y ty l1 kk hb M c
    refine W_call (hb hw2 hv' M.T (fun n hn' => ?_) fun a G'' Z'' num'' ms'' T' g' le' ext' _ => c a G'' Z'' num'' ms'' (M.grow T' g' le' ext') g')
    rcases List.mem_cons.mp hn' with rfl | hn'
    · exact ⟨m, M.at'⟩
    · obtain ⟨a, ha⟩ := hn n hn'
      exact ⟨a, M.ext _ _ ha⟩
  refine W_cut (fun a => parVB (some a) par = true) ?_ ?_
  · cases hu : valueAt (rows.map fun r => (r.1, r.2.2)) x with
    | none => rw [hu] at hpar; cases hpar
    | some u =>
      rw [hu] at hpar
      exact W_ditem rfl D48 hu ⟨rfl, Sub.rfl, hpar⟩ rfl (fun _ => rfl)
  intro u hu
  refine W_store hv' ?_ (by kernel_rfl)
  refine W_AssignAttr ?_ (hs := by kernel_rfl)
  refine W_mono (k := fun a l1 G6 => l1 = (("parent", u) :: ("found", .ref m) :: ("is_class", .bool (!modL.any (· == x))) :: ("name", .str x t) :: [] : Locs) ∧ ∃ Z6 n6 ms6, MC w p S tk ready pend G Z num ms x m dx cA oc [("number", .int (num + 1) tn1), ("owner", .none), ("name", .str x t), ("parent", .none), ("outer", .none), ("mixed", .ref mx), ("attached", .none), ("native", .str x t)] G6 Z6 n6 ms6) ?_ ?_
  · repeat' wtm_at "W"
    cases par with
    | none =>
      cases u with
      | none =>
        repeat' wtm_at "W"
        exact ⟨rfl, _, _, _, M5⟩
      | _ => cases hu
    | some y =>
      cases u with
      | str y' ty =>
        have : y' = y := eq_of_beq hu
        subst this
        obtain ⟨_, _, _, IW5⟩ := M5.T.hx
        repeat' wtm_at "W"
        refine W_methodX hv' IW5 (f := 516) (by kernel_rfl) (by first | exact wnoIn (by decide) | decide) ?_
        repeat' wtm_at "W"
        exact calls (hp _ rfl) M5 fun a G6 Z6 n6 ms6 M6 _ => ⟨rfl, _, _, _, M6⟩
      | _ => cases hu
  rintro u6 _ G6 ⟨rfl, Z6, n6, ms6, M6⟩
  have cA6 := M6.cell
  repeat' wtm_at "W"
  refine W_setX hv' M6.I But.rfl (by kernel_rfl) (by wtm_at "L") (by wtm_at "SF") fun G7 b7 I7 => ?_
  have M7 := M6.set b7 I7
  have cA7 := M7.cell
  obtain ⟨_, _, _, IW7⟩ := M7.T.hx
  refine W_AssignAttr ?_ (hs := by kernel_rfl)
  refine W_mono (k := fun a l1 G8 => l1 = (("parent", u) :: ("found", .ref m) :: ("is_class", .bool (!modL.any (· == x))) :: ("name", .str x t) :: [] : Locs) ∧ ∃ Z8 n8 ms8, MC w p S tk ready pend G Z num ms x m dx cA oc [("number", .int (num + 1) tn1), ("owner", .none), ("name", .str x t), ("parent", u6), ("outer", .none), ("mixed", .ref mx), ("attached", .none), ("native", .str x t)] G8 Z8 n8 ms8) ?_ ?_
  · repeat' wtm_at "W"
    refine W_methodX hv' IW7 (f := 516) (by kernel_rfl) (by first | exact wnoIn (by decide) | decide) ?_
    repeat' wtm_at "W"
    unfold ownerOf at ho
    split
    · rename_i e
      rw [if_pos e] at ho
      repeat' wtm_at "W"
      exact calls ho M7 fun a G6 Z6 n6 ms6 M6 _ => ⟨rfl, _, _, _, M6⟩
    · rename_i e
      rw [if_neg e] at ho
      repeat' wtm_at "W"
      exact calls ho M7 fun a G6 Z6 n6 ms6 M6 _ => ⟨rfl, _, _, _, M6⟩
  rintro u8 _ G8 ⟨rfl, Z8, n8, ms8, M8⟩
  have cA8 := M8.cell
  repeat' wtm_at "W"
  refine W_setX hv' M8.I But.rfl (by kernel_rfl) (by wtm_at "L") (by wtm_at "SF") fun G9 b9 I9 => ?_
  have M9 := M8.set b9 I9
  have cA9 := M9.cell
  refine W_AssignAttr ?_ (hs := by kernel_rfl)
  refine W_ListComp (cl := [("self", cA)]) hv' ?c1 (by kernel_rfl) ?_ (fun _ => rfl)
  case c1 => 
    unfold V.env
    rw [hcl]
    rfl
  repeat' wtm_at "W"
  obtain ⟨rows2, hrows2, D51⟩ := dd451 (G := G9) hv'
  refine W_m_dget D51 ?_
  repeat' wtm_at "W"
  rename_i ta to lta TA
  obtain ⟨rows2, hrows2, D51⟩ := dd451 (G := (ta, to) :: G9) hv'
  refine W_dget2 rfl D51 ?_
  have hmix := List.all_eq_true.mp hrows2 _ hx
  dsimp only at hmix
  have Mb := M9.sub (Sub.cons (p := (ta, to)))
  have hS : ∀ a ∈ [p.dw, p.dm], ∃ o, (a, o) ∈ (ta, to) :: G9 := fun a ha => by
    rcases List.mem_cons.mp ha with rfl | ha
    · exact Mb.T.st.at' _ o1
    · have : a = p.dm := by simpa using ha
      subst this
      exact Mb.T.st.at' _ o2
  have hlo : ∀ a ∈ [p.dw, p.dm], 770 < a := fun a ha => by
    rcases List.mem_cons.mp ha with rfl | ha
    · exact T0.hi _ o1
    · have : a = p.dm := by simpa using ha
      subst this
      exact T0.hi _ o2
  refine W_mono (k := fun it l2 G2 => l2 = (("parent", u) :: ("found", .ref m) :: ("is_class", .bool (!modL.any (· == x))) :: ("name", .str x t) :: [] : Locs) ∧ ∃ I oI fp vs xs, it = .ref I ∧ G2 = (I, oI) :: (ta, to) :: G9 ∧ (∀ q ∈ (ta, to) :: G9, q.1 < I) ∧ ItW v' G2 I fp vs.length 0 (fun i u => vs[i]? = some u) ∧ vs.length ≤ 1 ∧ StrsV vs xs ∧ (∀ y ∈ xs, BOk D y (x :: need)) ∧ ∀ b ∈ fp, b ∉ [p.dw, p.dm]) ?_ ?_
  · have nI : ∀ I, (∀ q ∈ (ta, to) :: G9, q.1 < I) → I ∉ [p.dw, p.dm] := fun I lt hm => let ⟨o, m⟩ := hS _ hm; Nat.lt_irrefl _ (lt _ m)
    cases hu : valueAt (rows2.map fun r => (r.1, r.2.2)) x with
    | none =>
      refine W_iter_tuple hv' TA fun I oI ltI TI => ⟨rfl, I, oI, _, _, [], rfl, rfl, ltI, TI, Nat.zero_le _, .nil, (by intro y hy; cases hy), fun b hb => ?_⟩
      rcases List.mem_cons.mp hb with rfl | hb
      · exact nI _ ltI
      · have : b = ta := by simpa using hb
        subst this
        exact fun hm => by
          rcases List.mem_cons.mp hm with e | hm
          · obtain ⟨o, m⟩ := M9.T.st.at' _ o1
            exact Nat.ne_of_lt (lta _ m) e.symm
          · have e : b = p.dm := by simpa using hm
            obtain ⟨o, m⟩ := M9.T.st.at' _ o2
            exact Nat.ne_of_lt (lta _ m) e.symm
    | some u0 =>
      rw [hu] at hmix
      cases hml : mixL.lookup x with
      | none => rw [hml] at hmix; cases u0 <;> cases hmix
      | some m' =>
        rw [hml] at hmix
        cases u0 with
        | ref a0 =>
          unfold mixVB at hmix
          dsimp only at hmix
          split at hmix
          · rename_i c0 d0 xs0 n0 sl0 hk0
            have ha0 : a0 ≤ 770 := K_le hk0
            refine W_iter_K (vs := xs0.toList) hv' hk0 rfl (by simp; rfl) fun I oI ltI TI => ⟨rfl, I, oI, _, _, [m'], rfl, rfl, ltI, TI, ?_, strsV_of hmix, fun y hy => ?_, fun b hb => ?_⟩
            · rw [strsB_len hmix]; exact Nat.le_refl _
            · have : y = m' := by simpa using hy
              subst this
              exact @hm _ hml
            · rcases List.mem_cons.mp hb with rfl | hb
              · exact nI _ ltI
              · have : b = a0 := by simpa using hb
                subst this
                exact fun hm => Nat.lt_irrefl _ (Nat.lt_of_lt_of_le (hlo _ hm) ha0)
          · cases hmix
        | _ => cases hmix
  rintro _ _ _ ⟨rfl, I9, oI, fp, vs, xs, rfl, rfl, ltI, TI, hl1, SV, hb, hfp⟩
  refine ⟨I9, fp, _, _, rfl, by rw [sizeLine_eq]; omega, TI, fun C D' G3 s3 lt hfp' dc NC PD => ?_⟩
  refine CompTurns.grow (S := [p.dw, p.dm]) (Gb := (ta, to) :: G9) (Z0 := Z8) (fun i acc G' Z' => ∃ n9 ms9, MC w p S tk ready pend G Z num ms x m dx cA oc [("number", .int (num + 1) tn1), ("owner", u8), ("name", .str x t), ("parent", u6), ("outer", .none), ("mixed", .ref mx), ("attached", .none), ("native", .str x t)] G' Z' n9 ms9)
    ltI hS hfp (fun q hq => ltI q (Mb.T.st.zg q hq)) lt hfp' ⟨_, .head _⟩ dc ⟨_, _, Mb.sub (Sub.trans Sub.cons s3)⟩ (fun i acc G G' Z a ⟨n, ms, M⟩ b ltb hz => ⟨n, ms, M.but Mb b ltb hz⟩) ?_ ?_
  · rintro i acc lc a Gc Zc hi hP ⟨nc, msc, Mc⟩ zc ltC NC
    obtain ⟨y, ty, rfl, hy⟩ := SV.get hP
    have hC : C ∉ [p.dw, p.dm] := fun hm => let ⟨o, m⟩ := hS _ hm; Nat.lt_irrefl _ (ltC _ m)
    refine W_asgName (W_cstore NC (fun Gd bd NCd => ?_) rfl (by kernel_rfl))
    have Md := Mc.but Mb bd ltC zc
    have cAd := Md.cell
    obtain ⟨_, _, _, IWd⟩ := Md.T.hx
    repeat' wtm_at "W"
    refine W_methodX hv' IWd (f := 516) (by kernel_rfl) (by first | exact wnoIn (by decide) | decide) ?_
    repeat' wtm_at "W"
    exact calls (hb y (List.mem_of_getElem? hy)) Md fun a Ge Ze ne mse Me ge => ⟨rfl, ⟨_, NCd.grow ge hC⟩, Ze, (Grow.ofBut bd (.head _) NCd.mem).trans (ge.mono fun _ h => .tail _ h), ne, mse, Me⟩
  · rintro acc Gc Zc hl ⟨nc, msc, Mc⟩ PDc
    have cAc := Mc.cell
    repeat' wtm_at "W"
    refine W_setX hv' Mc.I But.rfl (by kernel_rfl) (by wtm_at "L") (by wtm_at "SF") fun Gd bd Id => ?_
    have Md := Mc.set bd Id
    have cAd := Md.cell
    obtain ⟨_, _, _, IWd⟩ := Md.T.hx
    have Hd := IWd.has
    have fin : ∃ G2, Sub G2 Gd ∧ k (.ref m) l G2 := by
      refine ⟨Gd, Sub.rfl, ?_⟩
      obtain ⟨n1, n2, n3, n4, n5, n6, n7, n8', n9⟩ := Md.new
      obtain ⟨Z2, gz, zg, zz, Iz⟩ := Md.g.freeze Md.T.st.zg Md.I n9 lx2
      refine c m Gd Z2 nc msc ⟨Md.T.hx, Md.T.sm, Md.T.sn, Md.T.sp, T0.st.grow (gz.mono ?_) zg, Md.T.ok, fun q hq => ?_, Md.T.hi⟩ gz (by have := Md.le; omega) Md.ext Md.at'
      · intro a ha
        rcases List.mem_cons.mp ha with rfl | ha
        · exact o1
        · have : a = p.dm := by simpa using ha
          subst this
          exact o2
      · obtain ⟨h1, a, h2, h3⟩ := Md.T.ml q hq
        refine ⟨h1, a, h2, fun hp => ?_⟩
        by_cases e : q.1 = x
        · have e1 := nodup_at Md.T.sm.nodup hq
          rw [e, Md.at', h2] at e1
          cases e1
          obtain ⟨fs, IG, _, hq', _⟩ := Iz
          refine ⟨num + 1, ⟨t, tn1, dx, fs, IG, fun n w e' => ?_⟩, Md.le⟩
          refine hq' n w ?_
          rw [e] at e'
          revert e'
          show List.lookup n (modReq _ _ _) = _ → _
          exact modReq_sub
        · obtain ⟨n, h4, h5⟩ := h3 fun hp' => by
            rcases List.mem_cons.mp hp' with e' | hp'
            · exact e e'
            · exact hp hp'
          exact ⟨n, h4.sub zz, h5⟩
    cases ready with
    | false =>
      repeat' wtm_at "W"
      exact fin
    | true =>
      repeat' wtm_at "W"
      refine W_methodX hv' IWd (f := 528) (by kernel_rfl) (by first | exact wnoIn (by decide) | decide) ?_
      repeat' wtm_at "W"
      refine W_call (give_own_spec hw2 (hv'.less (e := 0 + 1) (by omega)) (parL_len _ hx) Md.T ?_)
      repeat' wtm_at "W"
      exact fin
end
theorem BOk.mono {D D' : Nat} {x : Str} {need : List Str} (h : BOk D x need) (le : D ≤ D') : BOk D' x need := by
  intro v nm sc l G Z k w p S tk ready pend num ms t hw hv T hn c
  exact h hw (hv.less le) T hn c
theorem BOk.make {D : Nat} {x : Str} {par : Option Str} {need : List Str} (hx : (x, par) ∈ parL) (hD : 4 ≤ D) (o : Str) (eo : ownerOf x = o) (mx : Option Str) (em : mixL.lookup x = mx) (hp : ∀ y, par = some y → BOk D y (x :: need)) (ho : BOk D o (x :: need)) (hm : ∀ m, mx = some m → BOk D m (x :: need)) : BOk (D + 2) x need := by
  subst eo em
  intro v nm sc l G Z k w p S tk ready pend num ms t hw hv T hn c
  refine C_fnP hv (kf_516 _) (by kernel_rfl) [("name", .str x t), ("self", .ref p.wd)] (fun S => by kernel_rfl) (by kernel_rfl) fun v' hv' hw' => ?_
  obtain ⟨tt, tn, tm, I⟩ := T.hx
  have I1 := I.has
  refine W_Assign (x := "found") ?_ (hs := by kernel_rfl)
  repeat' wtm_at "W"
  refine W_m_dget T.sm.dd ?_
  repeat' wtm_at "W"
  refine W_dget (hw'.trans hw) T.sm.dd ?_
  cases hu : valueAt ms x with
  | none =>
    repeat' wtm_at "W"
    refine W_methodX hv' I (f := 521) (by kernel_rfl) (by first | exact wnoIn (by decide) | decide) ?_
    repeat' wtm_at "W"
    exact W_call (make_spec hx hD hp ho hm (hw'.trans hw) hv' T hn hu fun a G' Z' num' ms' T' g le e at' => ⟨_, Sub.rfl, c a G' Z' num' ms' T' g le e at'⟩)
  | some u =>
    obtain ⟨_, a, rfl, _⟩ := T.ml _ (valueAt_mem hu)
    repeat' wtm_at "W"
    exact ⟨_, Sub.rfl, c a _ _ _ _ T Grow.refl (Int.le_refl _) Ext.rfl hu⟩
section
variable {need : List Str}
theorem bFound {x : Str} (h : x ∈ need) (D : Nat := 4) : BOk (D + 1) x need := (BOk.found (D := D) h)
theorem noMix {D : Nat} {x : Str} : ∀ m, (none : Option Str) = some m → BOk D m (x :: need) := fun _ h => nomatch h
theorem bClassA (h1 : ("Object" : Str) ∈ need) (h2 : ("Module" : Str) ∈ need) : BOk 7 "Class" need := BOk.make (D := 5) (par := some "Module") (by decide) (by decide) "Class" (by decide) none (by decide) (fun y e => by cases e; exact @bFound _ _ (.tail _ h2) 4) (@bFound _ _ (.head _) 4) noMix
theorem bModuleA (h1 : ("Object" : Str) ∈ need) (h2 : ("Class" : Str) ∈ need) : BOk 7 "Module" need := BOk.make (D := 5) (par := some "Object") (by decide) (by decide) "Class" (by decide) none (by decide) (fun y e => by cases e; exact @bFound _ _ (.tail _ h1) 4) (@bFound _ _ (.tail _ h2) 4) noMix
theorem bClass (h1 : ("Object" : Str) ∈ need) : BOk 9 "Class" need := BOk.make (D := 7) (par := some "Module") (by decide) (by decide) "Class" (by decide) none (by decide) (fun y e => by cases e; exact @bModuleA _ (.tail _ h1) (.head _)) (@bFound _ _ (.head _) 6) noMix
theorem bModule (h1 : ("Object" : Str) ∈ need) : BOk 9 "Module" need := BOk.make (D := 7) (par := some "Object") (by decide) (by decide) "Class" (by decide) none (by decide) (fun y e => by cases e; exact @bFound _ _ (.tail _ h1) 6) (@bClassA _ (.tail _ h1) (.head _)) noMix
theorem bBasic (h1 : ("Object" : Str) ∈ need) : BOk 11 "BasicObject" need := BOk.make (D := 9) (par := none) (by decide) (by decide) "Class" (by decide) none (by decide) (fun y e => by cases e) (@bClass _ (.tail _ h1)) noMix
theorem bMix {x : Str} (hx : x ∈ modL) (h1 : ("Object" : Str) ∈ need) : BOk 11 x need := by
  have hx' : (x, none) ∈ parL ∧ ownerOf x = "Module" ∧ mixL.lookup x = none := by
    revert x
    decide
  refine @BOk.make 9 _ none _ hx'.1 (by decide) "Module" hx'.2.1 none hx'.2.2 (fun y e => by cases e) (@bModule _ (.tail _ h1)) noMix
theorem bObject : BOk 13 "Object" need := BOk.make (D := 11) (par := some "BasicObject") (by decide) (by decide) "Class" (by decide) (some "Kernel") (by decide) (fun y e => by cases e; exact @bBasic _ (.head _)) (BOk.mono (@bClass _ (.head _)) (by decide)) (fun m e => by cases e; exact @bMix _ _ (by decide) (.head _))
theorem bDown {x y : Str} {D : Nat} (hx : (x, some y) ∈ parL) (hD : 11 ≤ D) (ho : ownerOf x = "Class") (hm : ∀ m, mixL.lookup x = some m → m ∈ modL) (h1 : ("Object" : Str) ∈ need) (hp : BOk D y (x :: need)) : BOk (D + 2) x need :=
  BOk.make (D := D) (par := some y) hx (by omega) "Class" ho _ rfl (fun y' e => by cases e; exact hp) (BOk.mono (@bClass _ (.tail _ h1)) (by omega)) (fun m e => BOk.mono (@bMix _ _ (hm m e) (.tail _ h1)) (by omega))
theorem bTop {x : Str} (hx : x ∈ (["Array", "Hash", "String", "Range", "Numeric", "Exception"] : List Str)) (h1 : ("Object" : Str) ∈ need) : BOk 13 x need := by
  have hx' : (x, some ("Object" : Str)) ∈ parL ∧ ownerOf x = "Class" ∧ ∀ m ∈ (mixL.lookup x).toList, m ∈ modL := by
    revert x
    decide
  refine @bDown _ _ _ 11 hx'.1 (by decide) hx'.2.1 (fun m e => hx'.2.2 m (by rw [e]; exact .head _)) h1 (@bFound _ _ (.tail _ h1) 10)
theorem bInteger (h1 : ("Object" : Str) ∈ need) : BOk 15 "Integer" need := bDown (D := 13) (y := "Numeric") (by decide) (by decide) (by decide) (by decide) h1 (@bTop _ _ (by decide) (.tail _ h1))
theorem bStandard (h1 : ("Object" : Str) ∈ need) : BOk 15 "StandardError" need := bDown (D := 13) (y := "Exception") (by decide) (by decide) (by decide) (by decide) h1 (@bTop _ _ (by decide) (.tail _ h1))
theorem bIndex (h1 : ("Object" : Str) ∈ need) : BOk 17 "IndexError" need := bDown (D := 15) (y := "StandardError") (by decide) (by decide) (by decide) (by decide) h1 (@bStandard _ (.tail _ h1))
theorem bType (h1 : ("Object" : Str) ∈ need) : BOk 17 "TypeError" need := bDown (D := 15) (y := "StandardError") (by decide) (by decide) (by decide) (by decide) h1 (@bStandard _ (.tail _ h1))
theorem bKey (h1 : ("Object" : Str) ∈ need) : BOk 19 "KeyError" need := bDown (D := 17) (y := "IndexError") (by decide) (by decide) (by decide) (by decide) h1 (@bIndex _ (.tail _ h1))
end
theorem kf_244 (P) : (K P).lookup 244 = some (k244 P) := by kernel_rfl
theorem kf_543 (P) : (K P).lookup 543 = some (k543 P) := by kernel_rfl
theorem kf_578 (P) : (K P).lookup 578 = some (k578 P) := by kernel_rfl
theorem kf_585 (P) : (K P).lookup 585 = some (k585 P) := by kernel_rfl
theorem kf_606 (P) : (K P).lookup 606 = some (k606 P) := by kernel_rfl
theorem kf_536 (P) : (K P).lookup 536 = some (k536 P) := by kernel_rfl
/-- the world, all made -/
structure WG (w : World) (p : WP) (S : List Addr) (tk : Int) (ob : Addr) (no : Int) (G Z : Led) (num : Int) (ms : List (Str × Value)) : Prop where
  W : WS w p S tk true [] G Z num ms
  o : valueAt ms "Object" = some (.ref ob)
  on : ∃ t tn, Has Z ob 228 (modReq (.int no tn) (.str "Object" t) .none)
  le : no ≤ num
section
variable {w : World} {p : WP} {S : List Addr} {tk : Int} {ob : Addr} {no : Int} {G Z : Led} {num : Int} {ms : List (Str × Value)}
theorem WG.grow {G' Z' : Led} {num' : Int} {ms' : List (Str × Value)} (T : WG w p S tk ob no G Z num ms) (W : WS w p S tk true [] G' Z' num' ms') (zz : Sub Z Z') (e : Ext ms ms') (le : num ≤ num') : WG w p S tk ob no G' Z' num' ms' :=
  ⟨W, e _ _ T.o, let ⟨t, tn, h⟩ := T.on; ⟨t, tn, h.sub zz⟩, Int.le_trans T.le le⟩
theorem WG.sub {G' : Led} (T : WG w p S tk ob no G Z num ms) (s : Sub G G') : WG w p S tk ob no G' Z num ms := T.grow (T.W.sub s) Sub.rfl Ext.rfl (Int.le_refl _)
theorem WG.but {G' : Led} {a : Addr} (T : WG w p S tk ob no G Z num ms) (b : But a G G') (h : a ∉ S ∧ a ≠ p.wd ∧ a ≠ p.na ∧ a ≠ p.pr) (hz : ∀ q ∈ Z, q.1 ≠ a) : WG w p S tk ob no G' Z num ms := T.grow (T.W.but b h hz) Sub.rfl Ext.rfl (Int.le_refl _)
theorem WS.still {pend : List Str} {ready : Bool} {Z' : Led} (T : WS w p S tk ready pend G Z num ms) (st : Still S G Z') (zz : Sub Z Z') : WS w p S tk ready pend G Z' num ms :=
  ⟨T.hx, T.sm, T.sn, T.sp, st, T.ok, fun q hq => let ⟨h1, a, h2, h3⟩ := T.ml q hq; ⟨h1, a, h2, fun hp => let ⟨n, h4, h5⟩ := h3 hp; ⟨n, h4.sub zz, h5⟩⟩, T.hi⟩
theorem WG.still {Z' : Led} (T : WG w p S tk ob no G Z num ms) (st : Still S G Z') (zz : Sub Z Z') : WG w p S tk ob no G Z' num ms := T.grow (T.W.still st zz) zz Ext.rfl (Int.le_refl _)
theorem WG.succ {G' : Led} (T : WG w p S tk ob no G Z num ms) (W : WS w p S tk true [] G' Z (num + 1) ms) : WG w p S tk ob no G' Z (num + 1) ms := T.grow W Sub.rfl Ext.rfl (by omega)
theorem WG.inS (T : WG w p S tk ob no G Z num ms) : ∀ a ∈ [p.dw, p.dm], a ∈ S := fun a ha => by
  obtain ⟨o1, o2, _⟩ := T.W.ok
  rcases List.mem_cons.mp ha with rfl | ha
  · exact o1
  · have : a = p.dm := by simpa using ha
    subst this
    exact o2
end
section
variable {v : V} {l : Locs} {G Z : Led} {nm : Str} {sc : Scope} {d : Nat} {k : Value → Locs → Led → Prop} {pos : Pos} {env : Env} {w : World} {p : WP} {S : List Addr} {tk : Int} {ob : Addr} {no : Int} {num : Int} {ms : List (Str × Value)}
theorem builtinG {x : Str} {t : Tok} {D : Nat} (hb : BOk D x ["Object"]) (hD : D ≤ 20) (hw : v.w = w) (hv : Ok v nm sc 20) (T : WG w p S tk ob no G Z num ms)
    (c : ∀ a G' Z' num' ms', WG w p S tk ob no G' Z' num' ms' → Grow [p.dw, p.dm] G Z G' Z' → num ≤ num' → Ext ms ms' → valueAt ms' x = some (.ref a) → (∃ n, ModOk Z' a x n ∧ n ≤ num') → k (.ref a) l G') : C v (.call (.ref 516) ⟨[.ref p.wd, .str x t], []⟩) l G k := by
  refine hb hw (hv.less hD) T.W (fun n hn => ?_) fun a G' Z' num' ms' W g le e at' => ?_
  · have : n = "Object" := by simpa using hn
    subst this
    exact ⟨ob, T.o⟩
  · obtain ⟨_, a', h2, h3⟩ := W.ml _ (valueAt_mem at')
    cases h2
    exact c a G' Z' num' ms' (T.grow W g.zz e le) g le e at' (h3 fun h => nomatch h)
theorem numberG (hv : Ok v nm sc (d + 1)) (T : WG w p S tk ob no G Z num ms) (h : ∀ t G', Grow [p.dw, p.dm] G Z G' Z → WG w p S tk ob no G' Z (num + 1) ms → k (.int (num + 1) t) l G') : C v (.call (.ref 495) ⟨[.ref p.wd], []⟩) l G k :=
  number_spec hv T.W fun t G' b W => h t G' (Grow.ofBut b (.head _) (let ⟨_, _, _, h⟩ := W.hx; h.mem)) (T.succ W)
theorem same_spec {a b C1 C2 : Addr} {r1 r2 : Locs} {n1 n2 : Int} {t1 t2 : Tok} (hv : Ok v nm sc (d + 2)) (I1 : Has G a 228 r1) (h1 : r1.lookup ("number" : Str) = some (.int n1 t1)) (I2 : Has G b 228 r2) (h2 : r2.lookup ("number" : Str) = some (.int n2 t2)) (h : k (.bool (n1 == n2)) l G) : C v (.call (.ref 244) ⟨[.ref a, .ref b], []⟩) l G k := by
  refine C_fnP hv (kf_244 _) (by kernel_rfl) [("other", .ref b), ("one", .ref a)] (fun S => by kernel_rfl) (by kernel_rfl) fun v' hv' hw => ?_
  refine W_Assign (x := "sort") ?_ (hs := by kernel_rfl)
  repeat' wtm_at "W"
  refine W_call (sort_of_spec hv' I1.ty (by wtm_at "M") fun _ => ?_)
  repeat' wtm_at "W"
  refine W_call (sort_of_spec hv' I2.ty (by wtm_at "M") fun _ => ?_)
  repeat' wtm_at "W"
  exact ⟨G, Sub.rfl, h⟩
theorem class_of_int {i : Int} {t : Tok} (hw : v.w = w) (hv : Ok v nm sc 21) (T : WG w p S tk ob no G Z num ms)
    (c : ∀ a G' Z' num' ms', WG w p S tk ob no G' Z' num' ms' → Grow [p.dw, p.dm] G Z G' Z' → num ≤ num' → Ext ms ms' → valueAt ms' "Integer" = some (.ref a) → (∃ n, ModOk Z' a "Integer" n ∧ n ≤ num') → k (.ref a) l G') : C v (.call (.ref 543) ⟨[.ref p.wd, .int i t], []⟩) l G k := by
  refine C_fnP hv (kf_543 _) (by kernel_rfl) [("value", .int i t), ("self", .ref p.wd)] (fun S => by kernel_rfl) (by kernel_rfl) fun v' hv' hw' => ?_
  obtain ⟨_, _, _, I⟩ := T.W.hx
  refine W_If ?_
  repeat' wtm_at "W"
  refine W_methodX hv' I (f := 516) (by kernel_rfl) (by first | exact wnoIn (by decide) | decide) ?_
  repeat' wtm_at "W"
  exact W_call (builtinG (@bInteger _ (by decide)) (by decide) (hw'.trans hw) hv' T fun a G' Z' num' ms' W g le e at' on => ⟨_, Sub.rfl, c a G' Z' num' ms' W g le e at' on⟩)
/-- a new text (not yet still) -/
theorem text_spec {s : Str} {t : Tok} (hw : v.w = w) (hv : Ok v nm sc 21) (T : WG w p S tk ob no G Z num ms)
    (c : ∀ a dx G' Z' num' ms', WG w p S tk ob no G' Z' num' ms' → Grow [p.dw, p.dm] G Z G' Z' → num ≤ num' → Ext ms ms' → HasX G' a 62 dx [("text", .str s t), ("frozen", .bool false)] [] → (∀ q ∈ G, q.1 < dx) → dx < a → (∀ q ∈ Z', q.1 < dx) → k (.ref a) l G') : C v (.call (.ref 578) ⟨[.ref p.wd, .str s t], []⟩) l G k := by
  refine C_fnP hv (kf_578 _) (by kernel_rfl) [("text", .str s t), ("self", .ref p.wd)] (fun S => by kernel_rfl) (by kernel_rfl) fun v' hv' hw' => ?_
  have hw2 := hw'.trans hw
  obtain ⟨_, _, _, I⟩ := T.W.hx
  refine W_ret ?_
  repeat' wtm_at "W"
  refine W_methodX hv' I (f := 495) (by kernel_rfl) (by first | exact wnoIn (by decide) | decide) ?_
  repeat' wtm_at "W"
  refine W_call (numberG (hv'.less (e := 0 + 1) (by omega)) T fun tn G1 g1 T1 => ?_)
  obtain ⟨_, _, _, I1⟩ := T1.W.hx
  repeat' wtm_at "W"
  refine W_methodX hv' I1 (f := 516) (by kernel_rfl) (by first | exact wnoIn (by decide) | decide) ?_
  repeat' wtm_at "W"
  refine W_call (builtinG (@bTop _ "String" (by decide) (by decide)) (by decide) hw2 hv' T1 fun st G2 Z2 n2 ms2 T2 g2 le2 e2 at2 on2 => ?_)
  repeat' wtm_at "W"
  refine W_newI (d := 2) (hv'.less (by omega)) (fI := 59) (by kernel_rfl) (by kernel_rfl) (by kernel_rfl) fun v2 m dx G3 hv2 hw3 lx1 lx2 sb3 I3 low3 => ?_
  refine text_init (d := 0) hv2 I3 fun G4 b4 I4 => ⟨rfl, ?_⟩
  have f := T2.W.freshA lx1
  have g := (g1.trans g2)
  exact ⟨_, Sub.rfl, c m dx G4 Z2 n2 ms2 ((T2.sub sb3).but b4 f.1 f.2) ((g.sub sb3).fresh b4 (g.lt lx1)) (by omega) e2 I4 (g.lt lx1) lx2 (fun q hq => lx1 q (T2.W.st.zg q hq))⟩
end
def NewArgs (P : Params) (args : PySem.Args) (wd : Addr) (x : Value) (ic pa ou : Value) : Prop := ∀ S, peek (K P) S (bindArgs (fnOf "new_module" "World.new_module" (fargs (clsS 45 9)) (fbody (clsS 45 9)) (fscope (clsS 45 9)) (.ref 529) .none .none (.str "gemrows.world" 861) none (.ref 535) .none) args) = some ([("self", .ref wd), ("name", x), ("is_class", ic), ("parent", pa), ("outer", ou), ("attached", .none)] : Locs)
theorem newArgs1 (P wd x ic) : NewArgs P ⟨[.ref wd, x, ic], []⟩ wd x ic .none .none := fun S => by kernel_rfl
theorem newArgs2 (P wd x ic pa ou) : NewArgs P ⟨[.ref wd, x, ic, pa, ou], []⟩ wd x ic pa ou := fun S => by kernel_rfl
section
variable {v : V} {l : Locs} {G Z : Led} {nm : Str} {sc : Scope} {d : Nat} {k : Value → Locs → Led → Prop} {pos : Pos} {env : Env} {w : World} {p : WP} {S : List Addr} {tk : Int} {ob : Addr} {no : Int} {num : Int} {ms : List (Str × Value)}
theorem new_module_spec {x : Str} {t : Tok} {icb : Bool} {pa ou : Value} {args : PySem.Args} (hw : v.w = w) (hv : Ok v nm sc 21) (T : WG w p S tk ob no G Z num ms) (ha : NewArgs v.w.params args p.wd (.str x t) (.bool icb) pa ou) (hp : icb = false ∨ isNone pa = false)
    (ho : ou = .none ∨ ∃ o n tn nm' ot, ou = .ref o ∧ Has Z o 228 (modReq (.int n tn) nm' ot) ∧ n ≠ no)
    (c : ∀ a G' Z' num' ms' n tn, WG w p S tk ob no G' Z' num' ms' → Grow [p.dw, p.dm] G Z G' Z' → num ≤ num' → Ext ms ms' → Has Z' a 228 (modReq (.int n tn) (.str x t) ou) → no < n → k (.ref a) l G') : C v (.call (.ref 536) args) l G k := by
  refine C_fnP hv (kf_536 _) (by kernel_rfl) [("attached", .none), ("outer", ou), ("parent", pa), ("is_class", .bool icb), ("name", .str x t), ("self", .ref p.wd)] ha (by kernel_rfl) fun v' hv' hw' => ?_
  have hw2 := hw'.trans hw
  obtain ⟨_, _, _, I⟩ := T.W.hx
  refine W_Assign (x := "owner") (W_mono (k := fun a l1 G1 => l1 = ([("attached", .none), ("outer", ou), ("parent", pa), ("is_class", .bool icb), ("name", .str x t), ("self", .ref p.wd)] : Locs) ∧ ∃ q Z1 n1 ms1, a = .ref q ∧ WG w p S tk ob no G1 Z1 n1 ms1 ∧ Grow [p.dw, p.dm] G Z G1 Z1 ∧ num ≤ n1 ∧ Ext ms ms1) ?_ ?_) (hs := by kernel_rfl)
  · repeat' wtm_at "W"
    refine W_methodX hv' I (f := 516) (by kernel_rfl) (by first | exact wnoIn (by decide) | decide) ?_
    repeat' wtm_at "W"
    cases icb with
    | true =>
      repeat' wtm_at "W"
      exact W_call (builtinG (@bClass _ (by decide)) (by decide) hw2 hv' T fun a G' Z' num' ms' W g le e at' on => ⟨rfl, a, Z', num', ms', rfl, W, g, le, e⟩)
    | false =>
      repeat' wtm_at "W"
      exact W_call (builtinG (@bModule _ (by decide)) (by decide) hw2 hv' T fun a G' Z' num' ms' W g le e at' on => ⟨rfl, a, Z', num', ms', rfl, W, g, le, e⟩)
  rintro _ _ G1 ⟨rfl, q, Z1, n1, ms1, rfl, T1, g1, le1, e1⟩
  refine W_store hv' ?_ (by kernel_rfl)
  refine W_If (W_cut (fun b => b = false) ?_ ?_)
  · cases icb with
    | false =>
      repeat' wtm_at "W"
      exact ⟨rfl, Sub.rfl, rfl⟩
    | true =>
      have hp : isNone pa = false := by rcases hp with h | h; cases h; exact h
      repeat' wtm_at "W"
      rw [hp]
      repeat' wtm_at "W"
      exact ⟨rfl, Sub.rfl, rfl⟩
  rintro _ rfl
  refine itF rfl (W_nil (Nx_next ?_))
  obtain ⟨_, _, _, I1⟩ := T1.W.hx
  refine W_Assign (x := "stands") (W_mono (k := fun a l1 G2 => a = ou ∧ l1 = (("owner", .ref q) :: ("attached", .none) :: ("outer", ou) :: ("parent", pa) :: ("is_class", .bool icb) :: ("name", .str x t) :: ("self", .ref p.wd) :: [] : Locs) ∧ ∃ Z2 n2 ms2, WG w p S tk ob no G2 Z2 n2 ms2 ∧ Grow [p.dw, p.dm] G Z G2 Z2 ∧ num ≤ n2 ∧ Ext ms ms2) ?_ ?_) (hs := by kernel_rfl)
  · rcases ho with rfl | ⟨o, n, tn, nm', ot, rfl, Io, hne⟩
    · repeat' wtm_at "W"
      exact ⟨rfl, rfl, Z1, n1, ms1, T1, g1, le1, e1⟩
    · repeat' wtm_at "W"
      refine W_methodX hv' I1 (f := 516) (by kernel_rfl) (by first | exact wnoIn (by decide) | decide) ?_
      repeat' wtm_at "W"
      refine W_call (builtinG (@bObject _) (by decide) hw2 hv' T1 fun a G2 Z2 n2 ms2 T2 g2 le2 e2 at2 on2 => ?_)
      have ea := T2.o
      rw [at2] at ea
      cases ea
      obtain ⟨t0, tn0, Iob⟩ := T2.on
      refine Args_nil ?_
      repeat' wtm_at "W"
      refine W_call (same_spec (C1 := 0) (C2 := 0) (hv'.less (e := 0 + 2) (by omega)) (Io.sub ((g1.zz.trans g2.zz).trans T2.W.st.zg)) (by rfl) (Iob.sub T2.W.st.zg) (by rfl) ?_)
      rw [show (n == no) = false by simpa using hne]
      repeat' wtm_at "W"
      exact ⟨rfl, rfl, Z2, n2, ms2, T2, g1.trans g2, by omega, e1.trans e2⟩
  rintro _ _ G2 ⟨rfl, rfl, Z2, n2, ms2, T2, g2, le2, e2⟩
  obtain ⟨_, _, _, I2⟩ := T2.W.hx
  repeat' wtm_at "W"
  refine W_methodX hv' I2 (f := 495) (by kernel_rfl) (by first | exact wnoIn (by decide) | decide) ?_
  repeat' wtm_at "W"
  refine W_call (numberG (hv'.less (e := 0 + 1) (by omega)) T2 fun tn G3 g3 T3 => ?_)
  repeat' wtm_at "W"
  refine W_newI (d := 2) (hv'.less (by omega)) (fI := 218) (by kernel_rfl) (by kernel_rfl) (by kernel_rfl) fun v2 m dx G4 hv2 hw3 lx1 lx2 sb4 I4 low4 => ?_
  refine mod_init (d := 0) hv2 (modArgs2 _ _ _ _ _ _ _ _) I4 fun G5 mx b5 I5 => ⟨rfl, ?_⟩
  have g23 := g2.trans g3
  have f := T3.W.freshA lx1
  have T5 := (T3.sub sb4).but b5 f.1 f.2
  have g5 := (g23.sub sb4).fresh b5 (g23.lt lx1)
  repeat' wtm_at "W"
  refine W_setX hv' I5 But.rfl (by kernel_rfl) (by wtm_at "L") (by wtm_at "SF") fun G6 b6 I6 => ?_
  repeat' wtm_at "W"
  have T6 := T5.but b6 f.1 f.2
  have g6 := g5.fresh b6 (g23.lt lx1)
  obtain ⟨Z7, gz, zg, zz, Iz⟩ := g6.freeze T6.W.st.zg I6 (g23.lt lx1) lx2
  obtain ⟨fs, IG, _, hq', _⟩ := Iz
  refine ⟨_, Sub.rfl, c m G6 Z7 (n2 + 1) ms2 (n2 + 1) tn (T6.still (T.W.st.grow (gz.mono T.inS) zg) zz) gz (by omega) e2 ⟨dx, fs, IG, fun n u e' => hq' n u ?_⟩ (by have := T2.le; omega)⟩
  have hm := lookup_mem e'
  simp only [List.mem_cons, Prod.mk.injEq, List.not_mem_nil, or_false] at hm
  rcases hm with ⟨rfl, rfl⟩ | ⟨rfl, rfl⟩ | ⟨rfl, rfl⟩ | ⟨rfl, rfl⟩ <;> rfl
theorem range_of_spec {i : Int} {t t2 : Tok} {u : Value} {b : Bool} (hw : v.w = w) (hv : Ok v nm sc 22) (T : WG w p S tk ob no G Z num ms) (hu : u = .none ∨ ∃ j, u = .int j t2)
    (c : ∀ a G' Z' num' ms', WG w p S tk ob no G' Z' num' ms' → Grow [p.dw, p.dm] G Z G' Z' → num ≤ num' → Ext ms ms' → Has Z' a 140 [("first", .int i t), ("last", u), ("open", .bool b)] → k (.ref a) l G') : C v (.call (.ref 606) ⟨[.ref p.wd, .int i t, u, .bool b], []⟩) l G k := by
  refine C_fnP hv (kf_606 _) (by kernel_rfl) [("is_open", .bool b), ("last", u), ("first", .int i t), ("self", .ref p.wd)] (fun S => by kernel_rfl) (by kernel_rfl) fun v' hv' hw' => ?_
  have hw2 := hw'.trans hw
  obtain ⟨_, _, _, I⟩ := T.W.hx
  have tail : ∀ (L : Locs) G1 Z1 n1 ms1, L.lookup ("self" : Str) = some (.ref p.wd) → L.lookup ("first" : Str) = some (.int i t) → L.lookup ("last" : Str) = some u → L.lookup ("is_open" : Str) = some (.bool b) → WG w p S tk ob no G1 Z1 n1 ms1 → Grow [p.dw, p.dm] G Z G1 Z1 → num ≤ n1 → Ext ms ms1 →
      W v' (execs (List.drop 1 (fbody (clsS 45 19))) (v'.env "World.range_of" (fscope (clsS 45 19)))) L G1 fun fl _ G' => ∃ G2, Sub G2 G' ∧ k (retV fl) l G2 := by
    intro L G1 Z1 n1 ms1 L1 L2 L3 L4 T1 g1 le1 e1
    obtain ⟨_, _, _, I1⟩ := T1.W.hx
    refine W_Assign (x := "found") ?_ (hs := by kernel_rfl)
    repeat' wtm_at "W"
    refine W_methodX hv' I1 (f := 495) (by kernel_rfl) (by first | exact wnoIn (by decide) | decide) ?_
    repeat' wtm_at "W"
    refine W_call (numberG (hv'.less (e := 0 + 1) (by omega)) T1 fun tn G3 g3 T3 => ?_)
    obtain ⟨_, _, _, I3⟩ := T3.W.hx
    repeat' wtm_at "W"
    refine W_methodX hv' I3 (f := 516) (by kernel_rfl) (by first | exact wnoIn (by decide) | decide) ?_
    repeat' wtm_at "W"
    refine W_call (builtinG (@bTop _ "Range" (by decide) (by decide)) (by decide) hw2 (hv'.less (by omega)) T3 fun st G4 Z4 n4 ms4 T4 g4 le4 e4 at4 on4 => ?_)
    repeat' wtm_at "W"
    refine W_newI (d := 2) (hv'.less (by omega)) (fI := 137) (by kernel_rfl) (by kernel_rfl) (by kernel_rfl) fun v2 m dx G5 hv2 hw3 lx1 lx2 sb5 I5 low5 => ?_
    refine range_init (d := 0) hv2 I5 fun G6 b6 I6 => ⟨rfl, ?_⟩
    have g14 := (g1.trans g3).trans g4
    have f := T4.W.freshA lx1
    repeat' wtm_at "W"
    refine W_setX hv' I6 But.rfl (by kernel_rfl) (by wtm_at "L") (by wtm_at "SF") fun G7 b7 I7 => ?_
    repeat' wtm_at "W"
    have T7 := ((T4.sub sb5).but b6 f.1 f.2).but b7 f.1 f.2
    have g7 := ((g14.sub sb5).fresh b6 (g14.lt lx1)).fresh b7 (g14.lt lx1)
    obtain ⟨Z8, gz, zg, zz, Iz⟩ := g7.freeze T7.W.st.zg I7 (g14.lt lx1) lx2
    obtain ⟨fs, IG, _, hq', _⟩ := Iz
    refine ⟨_, Sub.rfl, c m G7 Z8 n4 ms4 (T7.still (T.W.st.grow (gz.mono T.inS) zg) zz) gz (by omega) (e1.trans e4) ⟨dx, fs, IG, fun n u e' => hq' n u ?_⟩⟩
    have hm := lookup_mem e'
    simp only [List.mem_cons, Prod.mk.injEq, List.not_mem_nil, or_false] at hm
    rcases hm with ⟨rfl, rfl⟩ | ⟨rfl, rfl⟩ | ⟨rfl, rfl⟩ <;> rfl
  rcases hu with rfl | ⟨j, rfl⟩
  · refine W_If (W_cut (fun b => b = false) ?_ ?_)
    · repeat' wtm_at "W"
      exact ⟨rfl, Sub.rfl, rfl⟩
    rintro _ rfl
    refine itF rfl (W_nil (Nx_next ?_))
    exact tail _ G Z num ms (by wtm_at "L") (by wtm_at "L") (by wtm_at "L") (by wtm_at "L") T Grow.refl (Int.le_refl _) Ext.rfl
  · refine W_If (W_cut (fun b => b = true) ?_ ?_)
    · repeat' wtm_at "W"
      exact ⟨rfl, Sub.rfl, rfl⟩
    rintro _ rfl
    with_reducible refine itT (by with_unfolding_all rfl) ?_
    repeat' wtm_at "W"
    refine W_call (sort_of_spec (hv'.less (e := 0 + 1) (by omega)) .int (by wtm_at "M") fun _ => ?_)
    repeat' wtm_at "W"
    refine W_call (sort_of_spec (hv'.less (e := 0 + 1) (by omega)) .int (by wtm_at "M") fun _ => ?_)
    repeat' wtm_at "W"
    refine W_methodX hv' I (f := 543) (by kernel_rfl) (by first | exact wnoIn (by decide) | decide) ?_
    repeat' wtm_at "W"
    refine W_call (class_of_int hw2 hv' T fun a1 G1 Z1 n1 ms1 T1 g1 le1 e1 at1 on1 => ?_)
    obtain ⟨_, _, _, I1⟩ := T1.W.hx
    repeat' wtm_at "W"
    refine W_methodX hv' I1 (f := 543) (by kernel_rfl) (by first | exact wnoIn (by decide) | decide) ?_
    repeat' wtm_at "W"
    refine W_call (class_of_int hw2 hv' T1 fun a2 G2 Z2 n2 ms2 T2 g2 le2 e2 at2 on2 => ?_)
    have e3 := e2 _ _ at1
    rw [at2] at e3
    cases e3
    obtain ⟨n, ⟨t0, tn, Io⟩, _⟩ := on2
    refine Args_nil ?_
    refine W_call (same_spec (C1 := 0) (C2 := 0) (hv'.less (e := 0 + 2) (by omega)) (Io.sub T2.W.st.zg) (by rfl) (Io.sub T2.W.st.zg) (by rfl) ?_)
    rw [show (n == n) = true by simp]
    repeat' (first | ((with_reducible show W _ (execs _ _) _ _ _); exact tail _ G2 Z2 n2 ms2 (by wtm_at "L") (by wtm_at "L") (by wtm_at "L") (by wtm_at "L") T2 (g1.trans g2) (by omega) (e1.trans e2)) | wtm_at "W")
end
theorem kf_250 (P) : (K P).lookup 250 = some (k250 P) := by kernel_rfl
theorem kf_105 (P) : (K P).lookup 105 = some (k105 P) := by kernel_rfl
theorem kf_599 (P) : (K P).lookup 599 = some (k599 P) := by kernel_rfl
theorem kf_592 (P) : (K P).lookup 592 = some (k592 P) := by kernel_rfl
theorem kf_481 (P) : (K P).lookup 481 = some (k481 P) := by kernel_rfl
theorem kf_488 (P) : (K P).lookup 488 = some (k488 P) := by kernel_rfl
theorem Has.weak {G : Led} {x C : Addr} {req req' : Locs} (h : Has G x C req) (r : reqB req' req) : Has G x C req' := let ⟨dx, fs, I, q⟩ := h; ⟨dx, fs, I, fun n u e => q n u (r _ (lookup_mem e))⟩
theorem IL.of_cons {G : Led} {a : Addr} {o : Obj} {vs : List Value} (h : PL ((a, o) :: G) a vs) (lt : ∀ p ∈ G, p.1 < a) : ∃ n, o = listOf vs.toArray n := by
  obtain ⟨n, m⟩ := h
  rcases List.mem_cons.mp m with e | m
  · exact ⟨n, (Prod.mk.inj e).2.symm⟩
  · exact absurd (lt _ m) (Nat.lt_irrefl _)
/-- a key as it is handed to table_of: its code, and what is shown ahead of its value -/
inductive KeyS (G : Led) : Value → TKey → Str → Prop
  | sym {x t} : x.length ≤ 20 → okText x = true → KeyS G (.str x t) [.inl "sym", .inl x] ((if isLabel x then x else showText x) ++ ": ")
  | int {i t} : okI i = true → KeyS G (.int i t) [.inl "int", .inr i] (iS i ++ " => ")
  | text {a x t} : Has G a 62 [("text", .str x t), ("frozen", .bool false)] → x.length ≤ 20 → okText x = true → KeyS G (.ref a) [.inl "text", .inl x] (showText x ++ " => ")
theorem KeyS.sub {G G' : Led} {u : Value} {c : TKey} {s : Str} (h : KeyS G u c s) (b : Sub G G') : KeyS G' u c s := by
  cases h with
  | sym h1 h2 => exact .sym h1 h2
  | int h => exact .int h
  | text h1 h2 h3 => exact .text (h1.sub b) h2 h3
/-- a key as it stands in a table -/
inductive KeyQ (G : Led) : Value → TKey → Str → Prop
  | sym {x t} : x.length ≤ 20 → okText x = true → KeyQ G (.str x t) [.inl "sym", .inl x] ((if isLabel x then x else showText x) ++ ": ")
  | int {i t} : okI i = true → KeyQ G (.int i t) [.inl "int", .inr i] (iS i ++ " => ")
  | text {a x t} : Has G a 62 [("text", .str x t)] → x.length ≤ 20 → okText x = true → KeyQ G (.ref a) [.inl "text", .inl x] (showText x ++ " => ")
theorem KeyQ.sub {G G' : Led} {u : Value} {c : TKey} {s : Str} (h : KeyQ G u c s) (b : Sub G G') : KeyQ G' u c s := by
  cases h with
  | sym h1 h2 => exact .sym h1 h2
  | int h => exact .int h
  | text h1 h2 h3 => exact .text (h1.sub b) h2 h3
theorem KeyQ.key {G : Led} {u : Value} {c : TKey} {s : Str} (h : KeyQ G u c s) : KeyR G u s := by
  cases h with
  | sym h1 h2 => exact .sym h1 h2
  | int h => exact .int h
  | text h1 h2 h3 => exact .text h1 h2 h3
theorem TK.of {w : World} {G : Led} {t : Addr} {ks : TKey} {vs : List Value} (h : TL G t vs) (i : ItemsAre (mixKind w) ks vs) : TK w G t ks := let ⟨o, m, c, n, e⟩ := h; ⟨o, m, c, vs.toArray, n, e, i⟩
section
variable {v : V} {l : Locs} {G Z : Led} {nm : Str} {sc : Scope} {d : Nat} {k : Value → Locs → Led → Prop} {pos : Pos} {env : Env} {w : World} {p : WP} {S : List Addr} {tk : Int} {ob : Addr} {no : Int} {num : Int} {ms : List (Str × Value)}
theorem list_of_spec {li : Addr} {vs : List Value} (hw : v.w = w) (hv : Ok v nm sc 21) (T : WG w p S tk ob no G Z num ms) (hl : IL G li vs) (hli : li ∉ [p.dw, p.dm]) (hz : vs.length ≤ 100)
    (c : ∀ a li' G' Z' num' ms', WG w p S tk ob no G' Z' num' ms' → Grow [p.dw, p.dm] G Z G' Z' → num ≤ num' → Ext ms ms' → Has Z' a 82 [("items", .ref li')] → IL Z' li' vs → k (.ref a) l G') : C v (.call (.ref 585) ⟨[.ref p.wd, .ref li], []⟩) l G k := by
  refine C_fnP hv (kf_585 _) (by kernel_rfl) [("items", .ref li), ("self", .ref p.wd)] (fun S => by kernel_rfl) (by kernel_rfl) fun v' hv' hw' => ?_
  have hw2 := hw'.trans hw
  obtain ⟨_, _, _, I⟩ := T.W.hx
  refine W_ret ?_
  repeat' wtm_at "W"
  refine W_methodX hv' I (f := 495) (by kernel_rfl) (by first | exact wnoIn (by decide) | decide) ?_
  repeat' wtm_at "W"
  refine W_call (numberG (hv'.less (e := 0 + 1) (by omega)) T fun tn G1 g1 T1 => ?_)
  obtain ⟨_, _, _, I1⟩ := T1.W.hx
  repeat' wtm_at "W"
  refine W_methodX hv' I1 (f := 516) (by kernel_rfl) (by first | exact wnoIn (by decide) | decide) ?_
  repeat' wtm_at "W"
  refine W_call (builtinG (@bTop _ "Array" (by decide) (by decide)) (by decide) hw2 hv' T1 fun st G2 Z2 n2 ms2 T2 g2 le2 e2 at2 on2 => ?_)
  have g12 := g1.trans g2
  have hl2 : IL G2 li vs := let ⟨o, m, r⟩ := hl; ⟨o, g12.but _ m hli, r⟩
  repeat' wtm_at "W"
  refine W_listCopy hl2 (by rw [sizeLine_eq]; omega) fun B oB ltB PB => ?_
  obtain ⟨nB, rfl⟩ := IL.of_cons PB ltB
  refine Args_nil ?_
  refine W_newI (d := 2) (hv'.less (by omega)) (fI := 79) (by kernel_rfl) (by kernel_rfl) (by kernel_rfl) fun v2 m dx G3 hv2 hw3 lx1 lx2 sb3 I3 low3 => ?_
  refine list_init (d := 0) hv2 I3 fun G4 b4 I4 => ⟨rfl, ?_⟩
  have lt2 : ∀ q ∈ G2, q.1 < dx := fun q hq => lx1 q (.tail _ hq)
  have f := T2.W.freshA lt2
  have T4 := (T2.sub (Sub.trans Sub.cons sb3)).but b4 f.1 f.2
  have g4 := ((g12.sub (Sub.trans Sub.cons sb3)).fresh b4 (g12.lt lt2))
  have mB : (B, listOf vs.toArray nB) ∈ G4 := b4 _ (sb3 _ (.head _)) (Nat.ne_of_lt (lx1 _ (.head _)))
  obtain ⟨g5, zg5⟩ := g4.freeze1 T4.W.st.zg mB (g12.lt ltB)
  obtain ⟨Z6, gz, zg, zz, Iz⟩ := g5.freeze zg5 I4 (g12.lt lt2) lx2
  exact ⟨_, Sub.rfl, c m B G4 Z6 n2 ms2 (T4.still (T.W.st.grow (gz.mono T.inS) zg) (Sub.trans Sub.cons zz)) gz (by omega) e2 Iz.has ⟨_, zz _ (.head _), rfl, nB, rfl⟩⟩
theorem code_of_spec {key : Value} {code : TKey} {ahead : Str} (hw : v.w = w) (hv : Ok v nm sc (d + 2)) (hk : KeyQ G key code ahead)
    (h : ∀ t G', Sub G G' → (∀ q ∈ G, q.1 < t) → TK w G' t code → k (.ref t) l G') : C v (.call (.ref 250) ⟨[key], []⟩) l G k := by
  refine C_fnC' (c := "deep") hv (kf_250 _) (by kernel_rfl) (binds := [("value", key), ("deep", .int 12 258)]) (fun S => by kernel_rfl) (by kernel_rfl) [("value", key)] (some (.int 12 258)) (by rfl) (by rfl) fun v' cA o hv' hw' hcl ho hlt => ?_
  refine W_Assign (x := "sort") ?_ (hs := by kernel_rfl)
  have fin : ∀ t ot vs, (∀ q ∈ (cA, o) :: G, q.1 < t) → TL ((t, ot) :: (cA, o) :: G) t vs → ItemsAre (mixKind w) code vs → ∃ G2, Sub G2 ((t, ot) :: (cA, o) :: G) ∧ k (.ref t) l G2 := fun t ot vs lt TT i =>
    ⟨_, Sub.rfl, h t _ (Sub.trans Sub.cons Sub.cons) (fun q hq => lt q (.tail _ hq)) (TK.of TT i)⟩
  cases hk with
  | sym h1 h2 =>
    repeat' wtm_at "W"
    refine W_call (sort_of_spec (hv'.less (e := 0 + 1) (by omega)) .str (by wtm_at "M") fun _ => ?_)
    repeat' wtm_at "W"
    exact fin _ _ _ (by assumption) (by assumption) (.cons (strKind_is pw w _ _) (.cons (strKind_is pw w _ _) .nil))
  | int h1 =>
    repeat' wtm_at "W"
    refine W_call (sort_of_spec (hv'.less (e := 0 + 1) (by omega)) .int (by wtm_at "M") fun _ => ?_)
    repeat' wtm_at "W"
    exact fin _ _ _ (by assumption) (by assumption) (.cons (strKind_is pw w _ _) (.cons (intKind_is pw w _ _) .nil))
  | text I h1 h2 =>
    repeat' wtm_at "W"
    refine W_call (sort_of_spec (hv'.less (e := 0 + 1) (by omega)) (I.sub Sub.cons).ty (by wtm_at "M") fun _ => ?_)
    repeat' wtm_at "W"
    exact fin _ _ _ (by assumption) (by assumption) (.cons (strKind_is pw w _ _) (.cons (strKind_is pw w _ _) .nil))
theorem key_of_spec {key : Value} {code : TKey} {ahead : Str} (hw : v.w = w) (hv : Ok v nm sc 22) (T : WG w p S tk ob no G Z num ms) (hk : KeyS Z key code ahead)
    (c : ∀ key' G' Z' num' ms', WG w p S tk ob no G' Z' num' ms' → Grow [p.dw, p.dm] G Z G' Z' → num ≤ num' → Ext ms ms' → KeyQ Z' key' code ahead → k key' l G') : C v (.call (.ref 599) ⟨[.ref p.wd, key], []⟩) l G k := by
  refine C_fnP hv (kf_599 _) (by kernel_rfl) [("key", key), ("self", .ref p.wd)] (fun S => by kernel_rfl) (by kernel_rfl) fun v' hv' hw' => ?_
  obtain ⟨_, _, _, I⟩ := T.W.hx
  refine W_If ?_
  cases hk with
  | sym h1 h2 =>
    repeat' wtm_at "W"
    exact ⟨_, Sub.rfl, c _ _ _ _ _ T Grow.refl (Int.le_refl _) Ext.rfl (.sym h1 h2)⟩
  | int h1 =>
    repeat' wtm_at "W"
    exact ⟨_, Sub.rfl, c _ _ _ _ _ T Grow.refl (Int.le_refl _) Ext.rfl (.int h1)⟩
  | @text a0 x0 t0 It h1 h2 =>
    have It' := It.sub T.W.st.zg
    repeat' wtm_at "W"
    refine W_methodX hv' I (f := 578) (by kernel_rfl) (by first | exact wnoIn (by decide) | decide) ?_
    repeat' wtm_at "W"
    refine W_call (text_spec (hw'.trans hw) hv' T fun a dx G1 Z1 n1 ms1 T1 g1 le1 e1 I1 lx1 lx2 lz => ?_)
    repeat' wtm_at "W"
    refine W_setX hv' I1 But.rfl (by kernel_rfl) (by wtm_at "L") (by wtm_at "SF") fun G2 b2 I2 => ?_
    repeat' wtm_at "W"
    have f := T.W.freshA lx1
    have T2 := T1.but b2 f.1 (fun q hq => Nat.ne_of_lt (lz q hq))
    have g2 := g1.fresh b2 lx1
    obtain ⟨Z3, gz, zg, zz, Iz⟩ := g2.freeze T2.W.st.zg I2 lx1 lx2
    exact ⟨_, Sub.rfl, c _ G2 Z3 n1 ms1 (T2.still (T.W.st.grow (gz.mono T.inS) zg) zz) gz le1 e1 (.text (Iz.has.weak (reqB_cons (by wtm_at "L") reqB_nil)) h1 h2)⟩
/-- a new row of a table -/
theorem put_spec {tb f : Addr} {key val : Value} {code : TKey} {ahead : Str} {xs : List (TKey × Addr × Value)} (hw : v.w = w) (hv : Ok v nm sc (d + 3)) (I : Has G tb 120 [("rows", .ref f)]) (T : HD w G f xs) (hk : KeyQ G key code ahead) (hn : atKey xs code = none) (hz : xs.length ≤ 100)
    (h : ∀ t row n o G', (∀ p ∈ G, p.1 ≠ f → p ∈ G') → (∀ q ∈ G, q.1 < t) → (∀ q ∈ G, q.1 < row) → (t, o) ∈ G' → (row, listOf [key, val].toArray n) ∈ G' → TK w [(t, o)] t code → HD w G' f (xs ++ [(code, t, .ref row)]) → k .none l G') : C v (.call (.ref 105) ⟨[.ref tb, key, val], []⟩) l G k := by
  refine C_fnP hv (kf_105 _) (by kernel_rfl) [("value", val), ("key", key), ("self", .ref tb)] (fun S => by kernel_rfl) (by kernel_rfl) fun v' hv' hw' => ?_
  have hw2 := hw'.trans hw
  refine W_Assign (x := "code") ?_ (hs := by kernel_rfl)
  repeat' wtm_at "W"
  refine W_call (code_of_spec (d := d) hw2 hv' hk fun t G1 s1 lt1 Kt => ?_)
  have I1 := I.sub s1
  repeat' wtm_at "W"
  refine W_m_hget (T.sub s1) ?_
  repeat' wtm_at "W"
  refine W_hget hw2 hv' (T.sub s1) Kt hn ?_
  repeat' wtm_at "W"
  rename_i row orow ltr PR
  obtain ⟨nr, rfl⟩ := IL.of_cons PR ltr
  have I2 := I1.sub (Sub.cons (p := (row, listOf [key, val].toArray nr)))
  repeat' wtm_at "W"
  refine W_hset hw2 hv' ((T.sub s1).sub Sub.cons) (Kt.sub Sub.cons) hn (by rw [sizeLine_eq]; omega) fun G3 b3 T3 => ?_
  repeat' wtm_at "W"
  obtain ⟨ot, mt, ct, it⟩ := Kt
  have hf : ∃ o, (f, o) ∈ G := let ⟨o, _, _, m, _⟩ := T; ⟨o, m⟩
  obtain ⟨of', hf⟩ := hf
  refine ⟨_, Sub.rfl, h t row nr ot G3 (fun p hp ne => b3 p (.tail _ (s1 p hp)) ne) lt1 (fun q hq => ltr q (s1 q hq)) (b3 _ (.tail _ mt) (Nat.ne_of_gt (lt1 _ hf))) (b3 _ (.head _) (Nat.ne_of_gt (ltr _ (s1 _ hf)))) ⟨ot, .head _, ct, it⟩ T3⟩
end
theorem HD.grow {w : World} {S : List Addr} {G Z G' Z' : Led} {d : Addr} {xs : List (TKey × Addr × Value)} (h : HD w G d xs) (g : Grow S G Z G' Z') (hd : d ∉ S) (hk : ∀ x ∈ xs, x.2.1 ∉ S) : HD w G' d xs := by
  obtain ⟨o, es, ep, m, a, b, c, k, r⟩ := h
  refine ⟨o, es, ep, g.but _ m hd, a, b, c, fun x hx => ?_, r⟩
  obtain ⟨o', m', r'⟩ := k x hx
  exact ⟨o', g.but _ m' (hk x hx), r'⟩
theorem HD.but {w : World} {G G' : Led} {d a : Addr} {xs : List (TKey × Addr × Value)} (h : HD w G d xs) (b : But a G G') (hd : d ≠ a) (hk : ∀ x ∈ xs, x.2.1 ≠ a) : HD w G' d xs := by
  obtain ⟨o, es, ep, m, a', b', c, k, r⟩ := h
  exact ⟨o, es, ep, b _ m hd, a', b', c, fun x hx => (k x hx).but b (hk x hx), r⟩
/-- the pairs handed to table_of -/
inductive PS (Z : Led) (n : Nat) : List Value → List TKey → List Str → Prop
  | nil : PS Z n [] [] []
  | cons {ta key val code ahead told ts cs ss} : TL Z ta [key, val] → KeyS Z key code ahead → Rep Z n val told → PS Z n ts cs ss → PS Z n (.ref ta :: ts) (code :: cs) ((ahead ++ told) :: ss)
theorem PS.get {Z : Led} {n : Nat} {ts : List Value} {cs : List TKey} {ss : List Str} {i : Nat} {u : Value} (h : PS Z n ts cs ss) : ts[i]? = some u → ∃ ta key val code ahead told, u = .ref ta ∧ TL Z ta [key, val] ∧ KeyS Z key code ahead ∧ Rep Z n val told ∧ cs[i]? = some code ∧ ss[i]? = some (ahead ++ told) := by
  induction h generalizing i with
  | nil => exact fun e => by simp at e
  | cons h1 h2 h3 _ ih =>
    intro e
    cases i with
    | zero =>
      cases e
      exact ⟨_, _, _, _, _, _, rfl, h1, h2, h3, rfl, rfl⟩
    | succ i => exact ih e
theorem PS.len {Z : Led} {n : Nat} {ts : List Value} {cs : List TKey} {ss : List Str} (h : PS Z n ts cs ss) : ts.length = cs.length ∧ ts.length = ss.length := by
  induction h with
  | nil => exact ⟨rfl, rfl⟩
  | cons _ _ _ _ ih => exact ⟨congrArg (· + 1) ih.1, congrArg (· + 1) ih.2⟩
theorem atKey_none {xs : List (TKey × Addr × Value)} {c : TKey} (h : c ∉ xs.map (·.1)) : atKey xs c = none := atKey_none_of_get fun j p hj => h (List.mem_map.mpr ⟨_, List.mem_of_getElem? hj, rfl⟩)
theorem take_nodup {cs : List TKey} {i : Nat} {c : TKey} (hn : cs.Nodup) (h : cs[i]? = some c) : c ∉ cs.take i := by
  intro hm
  obtain ⟨j, hj, e⟩ := List.mem_iff_getElem.mp hm
  rw [List.length_take] at hj
  rw [List.getElem_take] at e
  have h1 : cs[j]? = some c := by rw [List.getElem?_eq_getElem (by omega), e]
  have := (List.getElem?_inj (by omega) hn).mp (h1.trans h.symm)
  omega
section
variable {v : V} {l : Locs} {G Z : Led} {nm : Str} {sc : Scope} {d : Nat} {k : Value → Locs → Led → Prop} {pos : Pos} {env : Env} {w : World} {p : WP} {S : List Addr} {tk : Int} {ob : Addr} {no : Int} {num : Int} {ms : List (Str × Value)}
/-- the state of table_of's loop -/
structure TB (w : World) (p : WP) (S : List Addr) (tk : Int) (ob : Addr) (no : Int) (G0 Z0 : Led) (num0 : Int) (ms0 : List (Str × Value)) (n : Nat) (tb dt f I : Addr) (codes : List TKey) (ss : List Str) (i : Nat) (l : Locs) (G Z : Led) (num : Int) (ms : List (Str × Value)) (xs : List (TKey × Addr × Value)) : Prop where
  l1 : l.lookup ("self" : Str) = some (.ref p.wd)
  l2 : l.lookup ("found" : Str) = some (.ref tb)
  T : WG w p S tk ob no G Z num ms
  g : Grow [p.dw, p.dm] G0 Z0 G Z
  le : num0 ≤ num
  ext : Ext ms0 ms
  H : HD w G f xs
  X : HasX G tb 120 dt [("rows", .ref f)] ["put", "pairs"]
  cs : xs.map (·.1) = codes.take i
  rw' : Two (RowR Z (Rep Z n)) (xs.map (·.2.2)) (ss.take i)
  kz : ∀ x ∈ xs, ∃ o, (x.2.1, o) ∈ Z
  zz : ∀ q ∈ Z, q.1 ≠ I ∧ q.1 ≠ f
theorem TB.but {G0 Z0 : Led} {num0 : Int} {ms0 : List (Str × Value)} {n : Nat} {tb dt f I : Addr} {codes : List TKey} {ss : List Str} {i : Nat} {xs : List (TKey × Addr × Value)} {G' : Led} (B : TB w p S tk ob no G0 Z0 num0 ms0 n tb dt f I codes ss i l G Z num ms xs) (b : But I G G') (hI : I ∉ S ∧ I ≠ p.wd ∧ I ≠ p.na ∧ I ≠ p.pr) (lt : ∀ q ∈ G0, q.1 < I) (h1 : f ≠ I) (h2 : tb ≠ I) (h3 : dt ≠ I) :
    TB w p S tk ob no G0 Z0 num0 ms0 n tb dt f I codes ss i l G' Z num ms xs :=
  ⟨B.l1, B.l2, B.T.but b hI fun q hq => (B.zz q hq).1, B.g.fresh b lt, B.le, B.ext, B.H.but b h1 fun x hx => let ⟨_, m⟩ := B.kz x hx; (B.zz _ m).1, B.X.but b h2 h3, B.cs, B.rw', B.kz, B.zz⟩
theorem table_of_spec {li : Addr} {ts : List Value} {codes : List TKey} {ss : List Str} {n : Nat} (hw : v.w = w) (hv : Ok v nm sc 23) (T : WG w p S tk ob no G Z num ms) (hl : IL G li ts) (hli : li ∉ [p.dw, p.dm]) (hz : ts.length ≤ 3) (hp : PS Z n ts codes ss) (hn : codes.Nodup)
    (c : ∀ a G' Z' num' ms', WG w p S tk ob no G' Z' num' ms' → Grow [p.dw, p.dm] G Z G' Z' → num ≤ num' → Ext ms ms' → Rep Z' (n + 1) (.ref a) ("{" ++ Txt.join ", " ss ++ "}") → k (.ref a) l G') : C v (.call (.ref 592) ⟨[.ref p.wd, .ref li], []⟩) l G k := by
  refine C_fnP hv (kf_592 _) (by kernel_rfl) [("pairs", .ref li), ("self", .ref p.wd)] (fun S => by kernel_rfl) (by kernel_rfl) fun v' hv' hw' => ?_
  have hw2 := hw'.trans hw
  obtain ⟨_, _, _, I⟩ := T.W.hx
  refine W_Assign (x := "found") ?_ (hs := by kernel_rfl)
  repeat' wtm_at "W"
  refine W_methodX hv' I (f := 495) (by kernel_rfl) (by first | exact wnoIn (by decide) | decide) ?_
  repeat' wtm_at "W"
  refine W_call (numberG (hv'.less (e := 0 + 1) (by omega)) T fun tn G1 g1 T1 => ?_)
  obtain ⟨_, _, _, I1⟩ := T1.W.hx
  repeat' wtm_at "W"
  refine W_methodX hv' I1 (f := 516) (by kernel_rfl) (by first | exact wnoIn (by decide) | decide) ?_
  repeat' wtm_at "W"
  refine W_call (builtinG (@bTop _ "Hash" (by decide) (by decide)) (by decide) hw2 (hv'.less (by omega)) T1 fun st G2 Z2 n2 ms2 T2 g2 le2 e2 at2 on2 => ?_)
  have g12 := g1.trans g2
  have hl2 : IL G2 li ts := let ⟨o, m, r⟩ := hl; ⟨o, g12.but _ m hli, r⟩
  repeat' wtm_at "W"
  refine W_newI (d := 2) (hv'.less (by omega)) (fI := 98) (by kernel_rfl) (by kernel_rfl) (by kernel_rfl) fun v2 tb dt G3 hv2 hw3 lx1 lx2 sb3 I3 low3 => ?_
  refine table_init (d := 0) hv2 I3 fun G4 f nf b4 mf lo ltf I4 => ⟨rfl, ?_⟩
  have fr := T2.W.freshA lx1
  have T4 := (T2.sub sb3).but b4 fr.1 fr.2
  have g4 := (g12.sub sb3).fresh b4 (g12.lt lx1)
  have hl4 : IL G4 li ts := let ⟨o, m, r⟩ := hl2; ⟨o, b4 _ (sb3 _ m) (Nat.ne_of_lt (lx1 _ m)), r⟩
  have ltf0 : ∀ q ∈ G2, q.1 < f := fun q hq => ltf q (sb3 q hq)
  repeat' wtm_at "W"
  refine W_For (nm := "World.table_of") (sc := fscope (clsS 45 17)) ?_ hv' (fun _ => by rfl)
  repeat' wtm_at "W"
  refine W_iter_list hv' hl4 fun Iv oI ltI TI => ?_
  refine ⟨Iv, _, _, _, fun i l G' => ∃ Z' n' ms' xs, TB w p S tk ob no G Z num ms n tb dt f Iv codes ss i l G' Z' n' ms' xs, rfl, TI, ?_, ?_, ?_, ?_⟩
  · exact ⟨Z2, n2, ms2, [], ⟨by wtm_at "L", by wtm_at "L", T4.sub Sub.cons, g4.sub Sub.cons, by omega, e2, (HD.new mf lo).sub Sub.cons, I4.sub Sub.cons, rfl, trivial, (by intro x hx; cases hx), fun q hq => ⟨Nat.ne_of_lt (ltI q (T4.W.st.zg q hq)), Nat.ne_of_lt (ltf0 q (T2.W.st.zg q hq))⟩⟩⟩
  · rintro i l1 Ga Gb ⟨Z', n', ms', xs, B⟩ b
    exact ⟨Z', n', ms', xs, B.but b (T4.W.freshA ltI).1 (g4.lt ltI) (Nat.ne_of_lt (ltI _ mf)) (let ⟨_, ⟨m, _⟩, _⟩ := I4; Nat.ne_of_lt (ltI _ m)) (let ⟨_, m⟩ := I4.mem; Nat.ne_of_lt (ltI _ m))⟩
  · rintro i a l' G' hi hP ⟨Z', n', ms', xs, B⟩ TI'
    obtain ⟨ta, key, val, code, ahead, told, rfl, htl, hk, hr, hc, hs⟩ := hp.get hP
    have L1 := B.l1
    have L2 := B.l2
    refine W_asgTupE hv' (htl.sub (B.g.zz.trans B.T.W.st.zg)) ?_ (by rfl) (by rfl)
    refine W_order_cons (W_asgName (W_store hv' ?_ (by kernel_rfl)))
    refine W_order_cons (W_asgName (W_store hv' ?_ (by kernel_rfl)))
    refine W_order_nil ?_
    refine W_Expr ?_ (hi := by kernel_rfl) (hs := by kernel_rfl)
    repeat' wtm_at "W"
    refine W_methodX hv' B.X (f := 105) (by kernel_rfl) (by first | exact wnoIn (by decide) | decide) ?_
    repeat' wtm_at "W"
    obtain ⟨_, _, _, IB⟩ := B.T.W.hx
    refine W_methodX hv' IB (f := 599) (by kernel_rfl) (by first | exact wnoIn (by decide) | decide) ?_
    repeat' wtm_at "W"
    refine W_call (key_of_spec hw2 hv' B.T (hk.sub B.g.zz) fun key' G5 Z5 n5 ms5 T5 g5 le5 e5 hq => ?_)
    have ff := (T2.W.freshA ltf0).1
    have nS : ∀ {b : Addr}, b ∉ S → b ∉ [p.dw, p.dm] := fun h hm => h (T.inS _ hm)
    have mtb : ∃ o, (tb, o) ∈ G3 := let ⟨m, _⟩ := I3; ⟨_, m⟩
    have mdt : ∃ o, (dt, o) ∈ G3 := let ⟨_, _, _, m, _⟩ := I3; ⟨_, m⟩
    obtain ⟨_, mtb⟩ := mtb
    obtain ⟨_, mdt⟩ := mdt
    have ftb := (T2.W.freshA fun q hq => Nat.lt_trans (lx1 q hq) lx2).1
    have X5 := B.X.grow g5 (nS ftb.1) (nS fr.1.1)
    have H5 := B.H.grow g5 (nS ff.1) fun x hx => let ⟨_, m⟩ := B.kz x hx; nS (B.T.W.st.ap _ m)
    have z5 : ∀ q ∈ Z5, q.1 ≠ Iv ∧ q.1 ≠ f := fun q hq => by
      rcases g5.new q hq with h | h
      · exact B.zz q h
      · obtain ⟨_, _, _, ⟨oi, mi⟩, _⟩ := TI'
        obtain ⟨of', _, _, mf', _⟩ := B.H
        exact ⟨Nat.ne_of_gt (h _ mi), Nat.ne_of_gt (h _ mf')⟩
    have hxl : xs.length ≤ 3 := by
      have e := congrArg List.length B.cs
      rw [List.length_map, List.length_take] at e
      have := hp.len.1
      omega
    repeat' wtm_at "W"
    refine W_call (put_spec (d := 0) hw2 (hv'.less (by omega)) X5.has H5 (hq.sub T5.W.st.zg) (atKey_none (by rw [B.cs]; exact take_nodup hn hc)) (by omega) fun t row nr ot G6 b6 ltt ltr mt mr Kt H6 => ?_)
    repeat' wtm_at "W"
    have T6 := T5.but b6 ff fun q hq => (z5 q hq).2
    have ltfG : ∀ q ∈ G, q.1 < f := g12.lt ltf0
    have g15 := B.g.trans g5
    have gA := g15.fresh b6 ltfG
    obtain ⟨gB, zgB⟩ := gA.freeze1 T6.W.st.zg mt (g15.lt ltt)
    obtain ⟨gC, zgC⟩ := gB.freeze1 zgB mr (g15.lt ltr)
    have iI5 : ∃ o, (Iv, o) ∈ G5 := let ⟨_, _, _, ⟨oi, mi⟩, _⟩ := TI'; g5.dom (Iv, oi) mi
    obtain ⟨oI5, mI5⟩ := iI5
    obtain ⟨oF5, _, _, mF5, _⟩ := id H5
    have zs : Sub Z5 ((row, listOf [key', val].toArray nr) :: (t, ot) :: Z5) := Sub.trans Sub.cons Sub.cons
    refine ⟨⟨_, n5, ms5, _, ⟨by wtm_at "L", by wtm_at "L", T6.still (T.W.st.grow (gC.mono T.inS) zgC) zs, gC, Int.le_trans B.le le5, B.ext.trans e5, H6, X5.but b6 (Nat.ne_of_lt (ltf _ mtb)) (Nat.ne_of_lt (ltf _ mdt)), ?_, ?_, ?_, ?_⟩⟩, ?_⟩
    · rw [List.map_append, B.cs, take_snoc hc]; rfl
    · rw [List.map_append, take_snoc hs]
      refine Two.snoc ⟨row, key', val, ahead, told, rfl, ⟨_, .head _, rfl, nr, rfl⟩, (hq.sub zs).key, hr.sub ((B.g.zz.trans g5.zz).trans zs), rfl⟩ (B.rw'.imp fun _ _ h => h.sub (g5.zz.trans zs) fun _ _ h => h.sub (g5.zz.trans zs))
    · intro x hx
      rcases List.mem_append.mp hx with hx | hx
      · obtain ⟨o, m⟩ := B.kz x hx
        exact ⟨o, zs _ (g5.zz _ m)⟩
      · have : x = (code, t, .ref row) := by simpa using hx
        subst this
        exact ⟨ot, .tail _ (.head _)⟩
    · intro q hq'
      rcases List.mem_cons.mp hq' with rfl | hq'
      · exact ⟨Nat.ne_of_gt (ltr _ mI5), Nat.ne_of_gt (ltr _ mF5)⟩
      rcases List.mem_cons.mp hq' with rfl | hq'
      · exact ⟨Nat.ne_of_gt (ltt _ mI5), Nat.ne_of_gt (ltt _ mF5)⟩
      · exact z5 q hq'
    · have fI := (T4.W.freshA ltI).1
      obtain ⟨ol, ml, _⟩ := id hl2
      refine (TI'.grow g5 (nS fI.1) fun b hb => ?_).but b6 (Nat.ne_of_gt (ltI _ mf)) fun hm => ?_
      · rcases List.mem_cons.mp hb with rfl | hb
        · exact nS fI.1
        · have : b = li := by simpa using hb
          subst this
          exact hli
      · rcases List.mem_cons.mp hm with e | hm
        · exact Nat.ne_of_lt (ltI _ mf) e
        · have e : f = li := by simpa using hm
          exact Nat.ne_of_gt (ltf0 _ ml) e
  · rintro l' G' ⟨Z', n', ms', xs, B⟩
    have L2 := B.l2
    repeat' wtm_at "W"
    obtain ⟨of', es, ep, mf', a1, a2, a3, _, _, lo'⟩ := id B.H
    obtain ⟨gA, zgA⟩ := B.g.freeze1 B.T.W.st.zg mf' (g12.lt ltf0)
    obtain ⟨Z3, gz, zg, zz, Iz⟩ := gA.freeze zgA B.X (g12.lt lx1) lx2
    have hcs := B.cs
    have hrw := B.rw'
    rw [List.take_of_length_le (by rw [hp.len.1]; exact Nat.le_refl _)] at hcs
    rw [List.take_of_length_le (by rw [hp.len.2]; exact Nat.le_refl _)] at hrw
    have zs : Sub Z' Z3 := Sub.trans Sub.cons zz
    obtain ⟨fs, IG, _, hq1, hq2⟩ := id Iz
    refine ⟨_, Sub.rfl, c tb G' Z3 n' ms' (B.T.still (T.W.st.grow (gz.mono T.inS) zg) zs) gz B.le B.ext (.inr (.inr ⟨tb, f, xs.map (·.2.2), ss, rfl, rfl, ⟨dt, fs, IG, hq1 _ _ (by wtm_at "L"), hq2 _ (by decide)⟩, ⟨of', es, ep, zz _ (.head _), a1, a2, by rw [a3, List.map_map]; rfl, lo'⟩, ?_, hrw.imp fun _ _ h => h.sub zs fun _ _ h => h.sub zs⟩))⟩
    rw [List.length_map]
    have e := congrArg List.length hcs
    rw [List.length_map] at e
    rw [e, ← hp.len.1]; exact hz
end
theorem kf_474 (P) : (K P).lookup 474 = some (k474 P) := by kernel_rfl
section
variable {v : V} {l : Locs} {G Z : Led} {nm : Str} {sc : Scope} {d : Nat} {k : Value → Locs → Led → Prop} {pos : Pos} {env : Env} {w : World} {p : WP} {S : List Addr} {tk : Int} {ob : Addr} {no : Int} {num : Int} {ms : List (Str × Value)}
theorem tick_spec (hv : Ok v nm sc (d + 1)) (T : WG w p S tk ob no G Z num ms) (hz : tk < 500) (h : ∀ G', But p.dw G G' → WG w p S (tk + 1) ob no G' Z num ms → k .none l G') : C v (.call (.ref 481) ⟨[.ref p.wd], []⟩) l G k := by
  refine C_fnP hv (kf_481 _) (by kernel_rfl) [("self", .ref p.wd)] (fun S => by kernel_rfl) (by kernel_rfl) fun v' hv' hw => ?_
  obtain ⟨tt, tn, tm, I⟩ := T.W.hx
  have I1 := I.has
  refine W_AugAttr ?_
  repeat' wtm_at "W"
  refine W_setX hv' I But.rfl (by kernel_rfl) (by wtm_at "L") (by wtm_at "SF") fun G' b I' => ?_
  have I2 := I'.has
  refine W_If ?_
  repeat' wtm_at "W"
  refine itF (decide_eq_false (by omega)) ?_
  repeat' wtm_at "W"
  exact ⟨_, Sub.rfl, h G' b ⟨T.W.num' b (Int.le_refl _) ⟨_, _, _, I'⟩, T.o, T.on, T.le⟩⟩
theorem write_spec {vs : List Value} {s : Str} {t : Tok} (hv : Ok v nm sc (d + 1)) (T : WG w p S tk ob no G Z num ms) (P : PL G p.ou vs) (hz : vs.length ≤ 100) (h : ∀ G', But p.ou G G' → PL G' p.ou (vs ++ [.str s t]) → k .none l G') : C v (.call (.ref 488) ⟨[.ref p.wd, .str s t], []⟩) l G k := by
  refine C_fnP hv (kf_488 _) (by kernel_rfl) [("text", .str s t), ("self", .ref p.wd)] (fun S => by kernel_rfl) (by kernel_rfl) fun v' hv' hw => ?_
  obtain ⟨tt, tn, tm, I⟩ := T.W.hx
  have I1 := I.has
  refine W_Expr ?_ (hi := by kernel_rfl) (hs := by kernel_rfl)
  repeat' wtm_at "W"
  refine W_m_append P ?_
  repeat' wtm_at "W"
  refine W_append P (by rw [sizeLine_eq]; omega) fun G' b P' => ?_
  repeat' wtm_at "W"
  exact ⟨_, Sub.rfl, h G' b P'⟩
theorem init_spec {na b : Addr} {t : Tok} (hw : v.w = w) (hv : Ok v nm sc 30) (N : SD w G na []) (h770 : 770 < b) (hnb : na ≠ b) (st : Still [b] G Z)
    (c : ∀ p ob no G' Z' num ms, WG w p [p.dw, p.dm, b] 0 ob no G' Z' num ms → (∀ q ∈ G, q ∈ G') → PL G' p.ou [] → p.ou ∉ [p.dw, p.dm, b] ∧ p.ou ≠ p.wd ∧ p.ou ≠ p.na ∧ p.ou ≠ p.pr → b ≠ p.dw ∧ b ≠ p.dm → (∀ q ∈ Z', q.1 ≠ p.ou ∧ (q ∈ Z ∨ ∀ r ∈ G, r.1 < q.1)) → k (.ref p.wd) l G') : W v (call (.ref 714) [.ref na, .none, .none, .int 500 t]) l G k := by
  refine W_newI (d := 29) hv (fI := 474) (by kernel_rfl) (by kernel_rfl) (by kernel_rfl) fun v2 x dw G0 hv2 hw2 lx1 lx2 sb0 I0 low0 => ?_
  refine C_fnP hv2 (kf_474 _) (by kernel_rfl) [("most", .int 500 t), ("read", .none), ("prelude", .none), ("natives", .ref na), ("self", .ref x)] (fun S => by kernel_rfl) (by kernel_rfl) fun v' hv' hw' => ?_
  have hw3 : v'.w = w := (hw'.trans hw2).trans hw
  refine W_AssignAttr (at' := "natives") ?_ (hs := by kernel_rfl)
  wtm_at "W"
  wtm_at "W"
  refine W_setfield hv' I0 (by kernel_rfl) (by wtm_at "SF") (by exact Nat.le_of_ble_eq_true rfl) fun G1 b1 I1 => ?_
  refine W_AssignAttr (at' := "prelude") ?_ (hs := by kernel_rfl)
  refine W_IfExp ?_
  refine W_isTrue_Compare1 ?_ (by kernel_rfl)
  wtm_at "W"
  wtm_at "W"
  wtm_at "W"
  wtm_at "W"
  wtm_at "W"
  refine W_Dict0 hv' fun a1 o1 lt1 sd1 df1 => ?_
  wtm_at "W"
  refine W_setfield hv' (I1.sub Sub.cons) (by kernel_rfl) (by wtm_at "SF") (by exact Nat.le_of_ble_eq_true rfl) fun G2 b2 I2 => ?_
  refine W_AssignAttr (at' := "read") ?_ (hs := by kernel_rfl)
  wtm_at "W"
  wtm_at "W"
  refine W_setfield hv' I2 (by kernel_rfl) (by wtm_at "SF") (by exact Nat.le_of_ble_eq_true rfl) fun G3 b3 I3 => ?_
  refine W_AssignAttr (at' := "most") ?_ (hs := by kernel_rfl)
  wtm_at "W"
  wtm_at "W"
  refine W_setfield hv' I3 (by kernel_rfl) (by wtm_at "SF") (by exact Nat.le_of_ble_eq_true rfl) fun G4 b4 I4 => ?_
  refine W_AssignAttr (at' := "taken") ?_ (hs := by kernel_rfl)
  wtm_at "W"
  wtm_at "W"
  refine W_setfield hv' I4 (by kernel_rfl) (by wtm_at "SF") (by exact Nat.le_of_ble_eq_true rfl) fun G5 b5 I5 => ?_
  refine W_AssignAttr (at' := "last_number") ?_ (hs := by kernel_rfl)
  wtm_at "W"
  wtm_at "W"
  refine W_setfield hv' I5 (by kernel_rfl) (by wtm_at "SF") (by exact Nat.le_of_ble_eq_true rfl) fun G6 b6 I6 => ?_
  refine W_AssignAttr (at' := "last_ident") ?_ (hs := by kernel_rfl)
  wtm_at "W"
  wtm_at "W"
  refine W_setfield hv' I6 (by kernel_rfl) (by wtm_at "SF") (by exact Nat.le_of_ble_eq_true rfl) fun G7 b7 I7 => ?_
  refine W_AssignAttr (at' := "symbol_idents") ?_ (hs := by kernel_rfl)
  refine W_Dict0 hv' fun a7 o7 lt7 sd7 df7 => ?_
  wtm_at "W"
  refine W_setfield hv' (I7.sub Sub.cons) (by kernel_rfl) (by wtm_at "SF") (by exact Nat.le_of_ble_eq_true rfl) fun G8 b8 I8 => ?_
  refine W_AssignAttr (at' := "made") ?_ (hs := by kernel_rfl)
  refine W_Dict0 hv' fun a8 o8 lt8 sd8 df8 => ?_
  wtm_at "W"
  refine W_setfield hv' (I8.sub Sub.cons) (by kernel_rfl) (by wtm_at "SF") (by exact Nat.le_of_ble_eq_true rfl) fun G9 b9 I9 => ?_
  refine W_AssignAttr (at' := "version") ?_ (hs := by kernel_rfl)
  wtm_at "W"
  wtm_at "W"
  refine W_setfield hv' I9 (by kernel_rfl) (by wtm_at "SF") (by exact Nat.le_of_ble_eq_true rfl) fun G10 b10 I10 => ?_
  refine W_AssignAttr (at' := "const_version") ?_ (hs := by kernel_rfl)
  wtm_at "W"
  wtm_at "W"
  refine W_setfield hv' I10 (by kernel_rfl) (by wtm_at "SF") (by exact Nat.le_of_ble_eq_true rfl) fun G11 b11 I11 => ?_
  refine W_AssignAttr (at' := "globals") ?_ (hs := by kernel_rfl)
  refine W_Dict0 hv' fun a11 o11 lt11 sd11 df11 => ?_
  wtm_at "W"
  refine W_setfield hv' (I11.sub Sub.cons) (by kernel_rfl) (by wtm_at "SF") (by exact Nat.le_of_ble_eq_true rfl) fun G12 b12 I12 => ?_
  refine W_AssignAttr (at' := "out") ?_ (hs := by kernel_rfl)
  refine W_List (Args_nil ?_) (by kernel_rfl)
  refine W_newList (by wtm_at "Z") fun a12 o12 lt12 pl12 => ?_
  wtm_at "W"
  refine W_setfield hv' (I12.sub Sub.cons) (by kernel_rfl) (by wtm_at "SF") (by exact Nat.le_of_ble_eq_true rfl) fun G13 b13 I13 => ?_
  refine W_AssignAttr (at' := "is_ready") ?_ (hs := by kernel_rfl)
  wtm_at "W"
  wtm_at "W"
  refine W_setfield hv' I13 (by kernel_rfl) (by wtm_at "SF") (by exact Nat.le_of_ble_eq_true rfl) fun G14 b14 I14 => ?_
  obtain ⟨_, m1⟩ : ∃ o, (dw, o) ∈ G1 := let ⟨_, _, _, m, _⟩ := I1; ⟨_, m⟩
  obtain ⟨_, m8⟩ : ∃ o, (dw, o) ∈ G8 := let ⟨_, _, _, m, _⟩ := I8; ⟨_, m⟩
  obtain ⟨_, m12⟩ : ∃ o, (dw, o) ∈ G12 := let ⟨_, _, _, m, _⟩ := I12; ⟨_, m⟩
  rw [hw3] at sd1 sd8
  obtain ⟨_, mb⟩ := st.at' b (.head _)
  obtain ⟨_, mn⟩ := N.mem
  have n0 : na ≠ dw := Nat.ne_of_lt (lx1 _ mn)
  have N0 := N.sub sb0
  have keep : ∀ q ∈ G, q ∈ G14 := fun q hq => by
    have ne : q.1 ≠ dw := Nat.ne_of_lt (lx1 q hq)
    have hq := sb0 q hq
    exact (b14 _ (b13 _ (.tail _ (b12 _ (.tail _ (b11 _ (b10 _ (b9 _ (.tail _ (b8 _ (.tail _ (b7 _ (b6 _ (b5 _ (b4 _ (b3 _ (b2 _ (.tail _ (b1 _ hq ne)) ne) ne) ne) ne) ne) ne)) ne)) ne) ne) ne)) ne)) ne) ne)
  have SNA := (((((((((((((((((((N0.but b1 n0).sub Sub.cons).but b2 n0).but b3 n0).but b4 n0).but b5 n0).but b6 n0).but b7 n0).sub Sub.cons).but b8 n0).sub Sub.cons).but b9 n0).but b10 n0).but b11 n0).sub Sub.cons).but b12 n0).sub Sub.cons).but b13 n0).but b14 n0)
  have SPR := (((((((((((((((((sd1.but b2 (Nat.ne_of_gt (lt1 _ m1))).but b3 (Nat.ne_of_gt (lt1 _ m1))).but b4 (Nat.ne_of_gt (lt1 _ m1))).but b5 (Nat.ne_of_gt (lt1 _ m1))).but b6 (Nat.ne_of_gt (lt1 _ m1))).but b7 (Nat.ne_of_gt (lt1 _ m1))).sub Sub.cons).but b8 (Nat.ne_of_gt (lt1 _ m1))).sub Sub.cons).but b9 (Nat.ne_of_gt (lt1 _ m1))).but b10 (Nat.ne_of_gt (lt1 _ m1))).but b11 (Nat.ne_of_gt (lt1 _ m1))).sub Sub.cons).but b12 (Nat.ne_of_gt (lt1 _ m1))).sub Sub.cons).but b13 (Nat.ne_of_gt (lt1 _ m1))).but b14 (Nat.ne_of_gt (lt1 _ m1)))
  have SDM := ((((((((sd8.but b9 (Nat.ne_of_gt (lt8 _ m8))).but b10 (Nat.ne_of_gt (lt8 _ m8))).but b11 (Nat.ne_of_gt (lt8 _ m8))).sub Sub.cons).but b12 (Nat.ne_of_gt (lt8 _ m8))).sub Sub.cons).but b13 (Nat.ne_of_gt (lt8 _ m8))).but b14 (Nat.ne_of_gt (lt8 _ m8)))
  have POU := ((pl12.but b13 (Nat.ne_of_gt (lt12 _ m12))).but b14 (Nat.ne_of_gt (lt12 _ m12)))
  let p : WP := ⟨x, dw, a8, na, a1, a12⟩
  have xdw : dw < x := lx2
  obtain ⟨_, m0x⟩ : ∃ o, (x, o) ∈ G1 := let ⟨m, _⟩ := I1; ⟨_, m⟩
  obtain ⟨_, m8x⟩ : ∃ o, (x, o) ∈ G8 := let ⟨m, _⟩ := I8; ⟨_, m⟩
  obtain ⟨_, m12x⟩ : ∃ o, (x, o) ∈ G12 := let ⟨m, _⟩ := I12; ⟨_, m⟩
  have hb : b < dw := lx1 _ mb
  have hn : na < dw := lx1 _ mn
  have hpr : x < a1 := lt1 _ m0x
  have hdm : x < a8 := lt8 _ m8x
  have hou : x < a12 := lt12 _ m12x
  have hpd : a1 < a8 := let ⟨_, m⟩ := SD.mem ((((((((sd1.but b2 (Nat.ne_of_gt (lt1 _ m1))).but b3 (Nat.ne_of_gt (lt1 _ m1))).but b4 (Nat.ne_of_gt (lt1 _ m1))).but b5 (Nat.ne_of_gt (lt1 _ m1))).but b6 (Nat.ne_of_gt (lt1 _ m1))).but b7 (Nat.ne_of_gt (lt1 _ m1))).sub Sub.cons).but b8 (Nat.ne_of_gt (lt1 _ m1))); lt8 _ m
  have hdo : a8 < a12 := let ⟨_, m⟩ := SD.mem (((((sd8.but b9 (Nat.ne_of_gt (lt8 _ m8))).but b10 (Nat.ne_of_gt (lt8 _ m8))).but b11 (Nat.ne_of_gt (lt8 _ m8))).sub Sub.cons).but b12 (Nat.ne_of_gt (lt8 _ m8))); lt12 _ m
  have nin3 : ∀ y, y ≠ dw → y ≠ a8 → y ≠ b → y ∉ [dw, a8, b] := fun y h1 h2 h3 hm => by
    rcases List.mem_cons.mp hm with e | hm
    · exact h1 e
    rcases List.mem_cons.mp hm with e | hm
    · exact h2 e
    · exact h3 (by simpa using hm)
  have zap : ∀ q ∈ Z, q.1 ∉ [dw, a8, b] := fun q hq => by
    have h1 := lx1 q (st.zg q hq)
    exact nin3 _ (Nat.ne_of_lt h1) (Nat.ne_of_lt (Nat.lt_trans h1 (Nat.lt_trans lx2 hdm))) (fun e => st.ap q hq (by rw [e]; exact .head _))
  have T0 : WS w p [dw, a8, b] 0 false [] G14 Z 0 [] :=
    { hx := ⟨_, _, _, I14.hasX (by exact Nat.le_of_ble_eq_true rfl) (reqB_cons (by wtm_at "L") (reqB_cons (by wtm_at "L") (reqB_cons (by wtm_at "L") (reqB_cons (by wtm_at "L") (reqB_cons (by wtm_at "L") (reqB_cons (by wtm_at "L") (reqB_cons (by wtm_at "L") (reqB_cons (by wtm_at "L") reqB_nil)))))))) (by kernel_rfl)⟩
      sm := SDM
      sn := SNA
      sp := SPR
      st := ⟨fun q hq => keep q (st.zg q hq), fun q hq => zap q hq, fun a ha => by
        rcases List.mem_cons.mp ha with rfl | ha
        · exact let ⟨_, _, _, m, _⟩ := I14; ⟨_, m⟩
        rcases List.mem_cons.mp ha with rfl | ha
        · exact SDM.mem
        · have : a = b := by simpa using ha
          subst this
          exact ⟨_, keep _ mb⟩⟩
      ok := by
        refine ⟨.head _, .tail _ (.head _), ?_, ?_, ?_, Nat.ne_of_gt (Nat.lt_trans lx2 hdm)⟩
        · exact nin3 x (Nat.ne_of_gt lx2) (Nat.ne_of_lt hdm) (Nat.ne_of_gt (Nat.lt_trans hb lx2))
        · exact nin3 na n0 (Nat.ne_of_lt (Nat.lt_trans hn (Nat.lt_trans lx2 hdm))) hnb
        · exact nin3 a1 (Nat.ne_of_gt (Nat.lt_trans lx2 hpr)) (Nat.ne_of_lt hpd) (Nat.ne_of_gt (Nat.lt_trans hb (Nat.lt_trans lx2 hpr)))
      ml := by intro q hq; cases hq
      hi := fun a ha => by
        rcases List.mem_cons.mp ha with rfl | ha
        · exact Nat.lt_trans h770 hb
        rcases List.mem_cons.mp ha with rfl | ha
        · exact Nat.lt_trans h770 (Nat.lt_trans hb (Nat.lt_trans lx2 hdm))
        · have : a = b := by simpa using ha
          subst this
          exact h770 }
  refine W_AssignAttr (at' := "main") ?_ (hs := by kernel_rfl)
  refine W_mono (k := fun a l1 G15 => l1 = ([("most", .int 500 t), ("read", .none), ("prelude", .none), ("natives", .ref na), ("self", .ref x)] : Locs) ∧ ∃ ob Z1 n1 ms1, WS w p [dw, a8, b] 0 false [] G15 Z1 n1 ms1 ∧ Grow [p.dw, p.dm] G14 Z G15 Z1 ∧ valueAt ms1 "Object" = some (.ref ob)) ?_ ?_
  · obtain ⟨_, _, _, IW⟩ := T0.hx
    repeat' wtm_at "W"
    refine W_methodX hv' IW (f := 495) (by kernel_rfl) (by first | exact wnoIn (by decide) | decide) ?_
    repeat' wtm_at "W"
    refine W_call (number_spec (p := p) (hv'.less (e := 0 + 1) (by omega)) T0 fun tn Ga ba Ta => ?_)
    obtain ⟨_, _, _, IWa⟩ := Ta.hx
    repeat' wtm_at "W"
    refine W_methodX hv' IWa (f := 516) (by kernel_rfl) (by first | exact wnoIn (by decide) | decide) ?_
    repeat' wtm_at "W"
    refine W_call ((@bObject []) (p := p) hw3 (hv'.less (by omega)) Ta (by intro n hn; cases hn) fun a Gb Zb nb msb Tb gb leb eb atb => ?_)
    repeat' wtm_at "W"
    refine W_newI (d := 27) hv' (fI := 37) (by kernel_rfl) (by kernel_rfl) (by kernel_rfl) fun v4 m dm4 Gc hv4 hw4 lc1 lc2 sbc Ic lowc => ?_
    refine thing_init (d := 26) hv4 Ic (by kernel_rfl) fun Gd fd bd Id => ⟨rfl, ?_⟩
    have fm := Tb.freshA lc1
    have ga : Grow [p.dw, p.dm] G14 Z Ga Z := Grow.ofBut ba (.head _) (let ⟨_, _, _, h⟩ := Ta.hx; h.mem)
    have gab := ga.trans gb
    exact ⟨rfl, a, Zb, nb, msb, (Tb.sub sbc).but bd fm.1 fm.2, (gab.sub sbc).fresh bd (gab.lt lc1), atb⟩
  rintro u15 _ G15 ⟨rfl, ob, Z1, n1, ms1, T1, g1, at1⟩
  wtm_at "W"
  obtain ⟨_, _, _, IM⟩ := T1.hx
  refine W_setMain (no := wno) hv' IM But.rfl (by kernel_rfl) (by rfl) (by rfl) (by decide) fun G16 b16 I16 => ?_
  refine W_AssignAttr (at' := "is_ready") ?_ (hs := by kernel_rfl)
  wtm_at "W"
  wtm_at "W"
  refine W_setX hv' I16 But.rfl (by kernel_rfl) (by wtm_at "L") (by wtm_at "SF") fun G17 b17 I17 => ?_
  have T17 : WS w p [dw, a8, b] 0 true [] G17 Z1 n1 ms1 := T1.num' (b16.trans b17) (Int.le_refl _) ⟨_, _, _, I17⟩
  obtain ⟨_, a', ea, hno⟩ := T17.ml _ (valueAt_mem at1)
  cases ea
  obtain ⟨no, on, le⟩ := hno (by intro h; cases h)
  have TG : WG w p [dw, a8, b] 0 ob no G17 Z1 n1 ms1 := ⟨T17, at1, on, le⟩
  have n2 : ∀ y, y ≠ dw → y ≠ a8 → y ∉ [p.dw, p.dm] := fun y h1 h2 hm => by
    rcases List.mem_cons.mp hm with e | hm
    · exact h1 e
    · exact h2 (by simpa using hm)
  have keep17 : ∀ q ∈ G, q ∈ G17 := fun q hq => by
    have h1 := lx1 q hq
    have ne := Nat.ne_of_lt h1
    exact b17 _ (b16 _ (g1.but _ (keep q hq) (n2 _ ne (Nat.ne_of_lt (Nat.lt_trans h1 (Nat.lt_trans lx2 hdm))))) ne) ne
  have oud : a12 ≠ dw := Nat.ne_of_gt (Nat.lt_trans lx2 hou)
  have PO17 : PL G17 a12 [] := ((POU.grow g1 (n2 _ oud (Nat.ne_of_gt hdo))).but b16 oud).but b17 oud
  have H17 := I17.has
  refine W_For (nm := "World.__init__") (sc := fscope (clsS 45 0)) ?_ hv' (fun _ => by rfl)
  repeat' wtm_at "W"
  refine W_listD hv' hw3 T17.sm (by have := T17.msl; omega) fun B oB vs ltB PB SV => ?_
  refine W_iter_list hv' PB.il fun Iv oI ltI TI => ?_
  have ltI17 : ∀ q ∈ G17, q.1 < Iv := fun q hq => ltI q (.tail _ hq)
  refine ⟨Iv, _, _, _, fun i l' G' => l'.lookup ("self" : Str) = some (.ref x) ∧ WG w p [dw, a8, b] 0 ob no G' Z1 n1 ms1 ∧ (∀ q ∈ G, q ∈ G') ∧ PL G' a12 [], rfl, TI, ?_, ?_, ?_, ?_⟩
  · exact ⟨by wtm_at "L", (TG.sub Sub.cons).sub Sub.cons, fun q hq => .tail _ (.tail _ (keep17 q hq)), (PO17.sub Sub.cons).sub Sub.cons⟩
  · rintro i l1 Ga Gb ⟨h1, h2, h3, h4⟩ bt
    have fI := T17.freshA ltI17
    obtain ⟨_, mo⟩ := PO17
    exact ⟨h1, h2.but bt fI.1 fI.2, fun q hq => bt q (h3 q hq) (Nat.ne_of_lt (ltI17 q (keep17 q hq))), h4.but bt (Nat.ne_of_lt (ltI17 _ mo))⟩
  · rintro i a l' G' hi hP ⟨h1, h2, h3, h4⟩ TI'
    obtain ⟨y, ty, rfl, hy⟩ := SV.get hP
    have hyl : y.length ≤ 100 := by
      have hm := List.mem_of_getElem? hy
      obtain ⟨q, hq, rfl⟩ := List.mem_map.mp hm
      obtain ⟨q2, hq2, e⟩ := List.mem_map.mp (T17.ml q hq).1
      rw [← e]; exact parL_len q2 hq2
    obtain ⟨_, _, _, IX⟩ := h2.W.hx
    refine W_asgName (W_store hv' ?_ (by kernel_rfl))
    refine W_Expr ?_ (hi := by kernel_rfl) (hs := by kernel_rfl)
    repeat' wtm_at "W"
    refine W_methodX hv' IX (f := 528) (by kernel_rfl) (by first | exact wnoIn (by decide) | decide) ?_
    repeat' wtm_at "W"
    refine W_call (give_own_spec (p := p) hw3 (hv'.less (e := 0 + 1) (by omega)) hyl h2.W ?_)
    refine W_nil ⟨⟨by wtm_at "L", h2, h3, h4⟩, TI'⟩
  · rintro l' G' ⟨h1, h2, h3, h4⟩
    refine W_nil ⟨G', Sub.rfl, rfl, c p ob no G' Z1 n1 ms1 h2 h3 h4 ⟨nin3 _ oud (Nat.ne_of_gt hdo) (Nat.ne_of_gt (Nat.lt_trans hb (Nat.lt_trans lx2 hou))), Nat.ne_of_gt hou, Nat.ne_of_gt (Nat.lt_trans hn (Nat.lt_trans lx2 hou)), Nat.ne_of_gt (Nat.lt_trans hpd hdo)⟩ ⟨Nat.ne_of_lt hb, Nat.ne_of_lt (Nat.lt_trans hb (Nat.lt_trans lx2 hdm))⟩ fun q hq => ?_⟩
    rcases g1.new q hq with h | h
    · exact ⟨Nat.ne_of_lt (Nat.lt_trans (lx1 q (st.zg q h)) (Nat.lt_trans lx2 hou)), .inl h⟩
    · obtain ⟨_, mo⟩ := POU
      exact ⟨Nat.ne_of_gt (h _ mo), .inr fun r hr => h r (keep r hr)⟩
end
theorem kf_732 (P) : (K P).lookup 732 = some (k732 P) := by kernel_rfl
/-- the box: what the script left, the seed, a count, a budget -/
def BX (G : Led) (b : Addr) (cm : Int) : Prop := ∃ g sd c bd t1 t2 t3 t4, IL G b [.int g t1, .int sd t2, .int c t3, .int bd t4] ∧ 0 ≤ sd ∧ sd < 2147483648 ∧ 0 ≤ c ∧ c ≤ cm
theorem BX.map {G G' : Led} {b : Addr} {cm cm' : Int} (h : BX G b cm) (f : ∀ vs, IL G b vs → IL G' b vs) (le : cm ≤ cm') : BX G' b cm' := by
  obtain ⟨g, sd, c, bd, t1, t2, t3, t4, h1, h2, h3, h4, h5⟩ := h
  exact ⟨g, sd, c, bd, t1, t2, t3, t4, f _ h1, h2, h3, h4, Int.le_trans h5 le⟩
theorem BX.mono {G : Led} {b : Addr} {cm cm' : Int} (h : BX G b cm) (le : cm ≤ cm') : BX G b cm' := h.map (fun _ h => h) le
theorem BX.sub {G G' : Led} {b : Addr} {cm : Int} (h : BX G b cm) (s : Sub G G') : BX G' b cm := h.map (fun _ h => h.sub s) (Int.le_refl _)
theorem BX.but {G G' : Led} {a b : Addr} {cm : Int} (h : BX G b cm) (s : But a G G') (ne : b ≠ a) : BX G' b cm := h.map (fun _ h => h.but s ne) (Int.le_refl _)
theorem BX.grow {S : List Addr} {G Z G' Z' : Led} {b : Addr} {cm : Int} (h : BX G b cm) (g : Grow S G Z G' Z') (ne : b ∉ S) : BX G' b cm := h.map (fun _ h => let ⟨o, m, q⟩ := h; ⟨o, g.but _ m ne, q⟩) (Int.le_refl _)
theorem BX.mem {G : Led} {b : Addr} {cm : Int} (h : BX G b cm) : ∃ o vs n, (b, o) ∈ G ∧ o.data = .seq vs n := by
  obtain ⟨_, _, _, _, _, _, _, _, ⟨o, m, _, n, e⟩, _⟩ := h
  exact ⟨o, _, n, m, e⟩
theorem bits_of {x : Int} {m : Nat} (h : x.natAbs < 2 ^ m) : Builtin.Int.intBits x ≤ m := intBits_le_iff.mpr h
section
variable {v : V} {l : Locs} {G Z : Led} {nm : Str} {sc : Scope} {d : Nat} {k : Value → Locs → Led → Prop} {pos : Pos} {env : Env} {value slice : Expr}
theorem W_setList {a : Addr} {vs vs' : List Value} {i : Int} {t : Tok} {u : Value} {k : Unit → Locs → Led → Prop} (T : IL G a vs) (h0 : 0 ≤ i) (h1 : i < vs.length) (hfit : i < 2 ^ 63) (hv : vs.set i.toNat u = vs') (h : ∀ G', But a G G' → IL G' a vs' → k () l G') : W v (setItem (.ref a) (.int i t) u) l G k := fun s Q E F N c => by
  obtain ⟨oa, ma, ca, na, da⟩ := id T
  refine wpAny_setItem_list (T.list N) h0 hfit (by simpa using h1) fun h' hl hs => ?_
  obtain ⟨F', _⟩ := fr_but F N ⟨_, ma⟩ fun b o ne e => (hs.2 b ne).trans e
  obtain ⟨o', ho', hc', n', hd'⟩ := hl
  refine c () l _ h' s.toks (h (upd G a o') upd_but ⟨o', upd_at, hc', n', ?_⟩) F' (news_put N ma hs ho')
  rw [hd', ← hv]; simp
theorem small_bits {x : Int} (h0 : 0 ≤ x) (h1 : x < 18446744073709551616) : Builtin.Int.intBits x ≤ 64 := bits_of (by omega)
theorem noPylong {i j : Int} (h : j.natAbs < 2 ^ 64) : Builtin.divisionGoesByPylong i j = false := by
  unfold Builtin.divisionGoesByPylong
  dsimp only
  have h2 : (if (j == 0) = true then 0 else j.natAbs.log2 / 30 + 1) ≤ 300 := by
    split
    · omega
    · have : j.natAbs.log2 ≤ 64 := by
        by_cases h0 : j.natAbs = 0
        · rw [h0]; decide
        · exact Nat.le_of_lt ((Nat.log2_lt h0).mpr h)
      omega
  rw [show decide ((if (j == 0) = true then 0 else j.natAbs.log2 / 30 + 1) > 300) = false from decide_eq_false (by omega)]
  rfl
theorem take_spec {b : Addr} {cm many : Int} {t : Tok} (hv : Ok v nm sc (d + 1)) (B : BX G b cm) (hc : cm ≤ 1000000) (h1 : 1 ≤ many) (h2 : many ≤ 100) (h : ∀ r t G', But b G G' → BX G' b (cm + 1) → 0 ≤ r → r < many → k (.int r t) l G') : C v (.call (.ref 732) ⟨[.ref b, .int many t], []⟩) l G k := by
  refine C_fnP hv (kf_732 _) (by kernel_rfl) [("many", .int many t), ("box", .ref b)] (fun S => by kernel_rfl) (by kernel_rfl) fun v' hv' hw => ?_
  obtain ⟨g, sd, c, bd, t1, t2, t3, t4, P, s1, s2, s3, s4⟩ := B
  have hm : many ≠ 0 := by omega
  refine W_If ?_
  repeat' wtm_at "W"
  refine W_sub_list P (by decide) (by decide) rfl ?_ rfl
  repeat' wtm_at "W"
  cases hg : decide (g > 0) with
  | true =>
    repeat' wtm_at "W"
    refine W_sub_list P (by decide) (by decide) rfl ?_ rfl
    repeat' wtm_at "W"
    refine W_mod hm fun _ => ?_
    repeat' wtm_at "W"
    refine W_sub_list P (by decide) (by decide) rfl ?_ rfl
    repeat' wtm_at "W"
    refine W_fdiv hm (noPylong (by omega)) fun _ => ?_
    repeat' wtm_at "W"
    refine W_setList P (by decide) (by show (0:Int) < 4; decide) (by decide) rfl fun G1 b1 P1 => ?_
    repeat' wtm_at "W"
    exact ⟨_, Sub.rfl, h _ _ _ b1 ⟨_, sd, c, bd, _, t2, t3, t4, P1, s1, s2, s3, by omega⟩ (Int.fmod_nonneg_of_pos _ (by omega)) (Int.fmod_lt_of_pos _ (by omega))⟩
  | false =>
    repeat' wtm_at "W"
    refine W_sub_list P (by decide) (by decide) rfl ?_ rfl
    repeat' wtm_at "W"
    refine W_setList P (by decide) (by show (2:Int) < 4; decide) (by decide) rfl fun G1 b1 P1 => ?_
    repeat' wtm_at "W"
    refine W_sub_list P1 (by decide) (by decide) rfl ?_ rfl
    repeat' wtm_at "W"
    refine W_sub_list P1 (by decide) (by decide) rfl ?_ rfl
    refine W_mul (IntMulOk.of_left (by decide)) fun _ => ?_
    repeat' wtm_at "W"
    have c0 : 0 ≤ sd + 15485863 * (c + 1) + 31 := by omega
    have c1 : sd + 15485863 * (c + 1) + 31 < 18446744073709551616 := by omega
    refine W_pow (by decide) (by have := small_bits c0 c1; omega) fun _ => ?_
    repeat' wtm_at "W"
    refine W_mod (by decide) fun _ => ?_
    have m0 := Int.fmod_nonneg_of_pos ((sd + 15485863 * (c + 1) + 31) ^ (5 : Int).toNat) (show (0 : Int) < 2147483647 by decide)
    have m1 := Int.fmod_lt_of_pos ((sd + 15485863 * (c + 1) + 31) ^ (5 : Int).toNat) (show (0 : Int) < 2147483647 by decide)
    generalize Int.fmod ((sd + 15485863 * (c + 1) + 31) ^ (5 : Int).toNat) 2147483647 = mix at m0 m1 ⊢
    repeat' wtm_at "W"
    refine W_mul (IntMulOk.of_right (by decide)) fun _ => ?_
    repeat' wtm_at "W"
    refine W_sub_list P1 (by decide) (by decide) rfl ?_ rfl
    refine W_mul (IntMulOk.of_left (by decide)) fun _ => ?_
    repeat' wtm_at "W"
    have c2 : 0 ≤ mix * 48271 + 7919 * (c + 1) := by omega
    have c3 : mix * 48271 + 7919 * (c + 1) < 18446744073709551616 := by omega
    refine W_pow (by decide) (by have := small_bits c2 c3; omega) fun _ => ?_
    repeat' wtm_at "W"
    refine W_mod (by decide) fun _ => ?_
    repeat' wtm_at "W"
    refine W_fdiv (by decide) (noPylong (by decide)) fun _ => ?_
    repeat' wtm_at "W"
    refine W_mod hm fun _ => ?_
    exact ⟨_, Sub.rfl, h _ _ _ b1 ⟨_, sd, c + 1, bd, _, t2, _, t4, P1, s1, s2, by omega, by omega⟩ (Int.fmod_nonneg_of_pos _ (by omega)) (Int.fmod_lt_of_pos _ (by omega))⟩
end
theorem kf_746 (P) : (K P).lookup 746 = some (k746 P) := by kernel_rfl
theorem kf_739 (P) : (K P).lookup 739 = some (k739 P) := by kernel_rfl
def wordL : List Str := ["ab", "", "q\"q", "a\\b", "two\nrows", "t\tt", "#{x}", "# x", "c d"]
theorem StrsV.at {vs : List Value} {xs : List Str} (S : StrsV vs xs) : ∀ {i : Nat}, i < xs.length → ∃ y t, vs[i]? = some (.str y t) ∧ xs[i]? = some y := by
  induction S with
  | nil => intro i h; exact absurd h (Nat.not_lt_zero _)
  | @cons x t vs xs r ih =>
    intro i h
    cases i with
    | zero => exact ⟨x, t, rfl, rfl⟩
    | succ i => exact ih (i := i) (Nat.lt_of_succ_lt_succ h)
theorem PL.pick {G : Led} {a : Addr} {vs : List Value} (P : PL G a vs) {xs : List Str} (S : StrsV vs xs) {i : Nat} (h : i < xs.length) : ∃ y t, PL G a vs ∧ vs[i]? = some (.str y t) ∧ xs[i]? = some y := let ⟨y, t, h1, h2⟩ := S.at h; ⟨y, t, P, h1, h2⟩
def sgL : List (Str × Str) := [("\"", "\\\""), ("\\", "\\\\"), ("\n", "\\n"), ("\t", "\\t")]
def quotP (c : Nat) (f : Str) : Str := if ch c == "#" then (if f == "{" then "\\#" else (sgL.lookup (ch c)).getD (ch c)) else (sgL.lookup (ch c)).getD (ch c)
def quotM (x : Str) : Nat → Str
  | 0 => ""
  | i + 1 => quotM x i ++ quotP (x.cps.getD i 0) (Txt.slice x (some ((i : Int) + 1)) (some ((i : Int) + 2)))
def quoted (x : Str) : Str := "\"" ++ quotM x x.cps.size ++ "\""
theorem sg_len (c : Nat) : ((sgL.lookup (ch c)).getD (ch c)).length ≤ 2 := by
  have gen : ∀ L : List (Str × Str), (∀ p ∈ L, p.2.length ≤ 2) → ∀ x y, L.lookup x = some y → y.length ≤ 2 := by
    intro L
    induction L with
    | nil => intro _ x y h; cases h
    | cons p r ih =>
      intro hp x y h
      rw [List.lookup_cons] at h
      split at h
      · cases h; exact hp p (.head _)
      · exact ih (fun q hq => hp q (.tail _ hq)) x y h
  cases e : sgL.lookup (ch c) with
  | none => exact (by decide : 1 ≤ 2)
  | some y => exact gen sgL (by decide) _ _ e
theorem quotP_len (c : Nat) (f : Str) : (quotP c f).length ≤ 2 := by
  unfold quotP
  split
  · split
    · decide
    · exact sg_len c
  · exact sg_len c
theorem quotM_len (x : Str) : ∀ i, (quotM x i).length ≤ 2 * i
  | 0 => Nat.le_refl _
  | i + 1 => by
    have h1 := quotM_len x i
    have h2 := quotP_len (x.cps.getD i 0) (Txt.slice x (some ((i : Int) + 1)) (some ((i : Int) + 2)))
    unfold quotM
    rw [str_append_len]
    omega
theorem ofS_get {v : V} {G : Led} (x : Str) (u : Tok) : ∀ {L : List (Str × Str)} {kvs : List (Str × Value)}, ofS v G L kvs → ∃ t, (valueAt kvs x).getD (.str x u) = .str ((L.lookup x).getD x) t
  | [], [], _ => ⟨u, rfl⟩
  | (a, b) :: L, (a', w) :: r, h => by
    obtain ⟨rfl, ⟨t, rfl⟩, h⟩ := h
    obtain ⟨t', ih⟩ := ofS_get x u h
    unfold valueAt at ih ⊢
    rw [List.find?_cons, List.lookup_cons]
    dsimp only
    by_cases e : a' = x
    · subst e; exact ⟨t, by simp⟩
    · rw [decide_eq_false e, show (x == a') = false by simpa using fun q => e q.symm]
      exact ⟨t', ih⟩
  | [], _ :: _, h => nomatch h
  | _ :: _, [], h => nomatch h
section
variable {v : V} {l : Locs} {G Z : Led} {nm : Str} {sc : Scope} {d : Nat} {k : Value → Locs → Led → Prop} {pos : Pos} {env : Env}
theorem word_spec {b : Addr} {cm : Int} (hv : Ok v nm sc (d + 2)) (B : BX G b cm) (hc : cm ≤ 1000000) (h : ∀ w t G', w ∈ wordL → But b G G' → BX G' b (cm + 1) → k (.str w t) l G') : C v (.call (.ref 746) ⟨[.ref b], []⟩) l G k := by
  refine C_fnP hv (kf_746 _) (by kernel_rfl) [("box", .ref b)] (fun S => by kernel_rfl) (by kernel_rfl) fun v' hv' hw => ?_
  have hb : ∃ o, (b, o) ∈ G := B.mem.elim fun o h => h.elim fun _ h => h.elim fun _ h => ⟨o, h.1⟩
  obtain ⟨_, hb⟩ := hb
  refine W_ret ?_
  repeat' wtm_at "W"
  rename_i ta lta' PA tt
  refine W_call (take_spec (d := d) hv' (B.sub Sub.cons) hc (by decide) (by decide) fun r tr G1 b1 B1 r0 r1 => ?_)
  obtain ⟨y, ty, P1, h1, h2⟩ := (PA.but b1 (Nat.ne_of_gt (lta' _ hb))).pick (xs := wordL) (.cons (.cons (.cons (.cons (.cons (.cons (.cons (.cons (.cons .nil))))))))) (i := r.toNat) (by show r.toNat < 9; omega)
  refine W_sub_list P1.il r0 (by omega) h1 ?_ rfl
  exact ⟨_, Sub.rfl, h y ty G1 (List.mem_of_getElem? h2) (fun p hp ne => b1 p (.tail _ hp) ne) B1⟩
theorem quoted_spec {x : Str} {t : Tok} {w : World} (hw : v.w = w) (hv : Ok v nm sc (d + 1)) (hx : x.length ≤ 100) (h : ∀ t, k (.str (quoted x) t) l G) : C v (.call (.ref 739) ⟨[.str x t], []⟩) l G k := by
  refine C_fnP hv (kf_739 _) (by kernel_rfl) [("text", .str x t)] (fun S => by kernel_rfl) (by kernel_rfl) fun v' hv' hw' => ?_
  refine W_Assign (x := "signs") ?_ (hs := by kernel_rfl)
  refine W_DictS (L := sgL) hv' (by rfl) (by rfl) (by rfl) (by decide) (by decide) (by decide) fun D oD kvs ltD os SDD => ?_
  repeat' (first | (with_reducible show W _ (execs (.For _ _ _ _ _ :: _) _) _ _ _; fail) | wtm_at "W")
  refine W_ForEnum (x := x) (t := t) (nm := "_law_quoted") (sc := fscope (topS 49)) hv' (fun i l' => ∃ tm, l'.lookup ("made" : Str) = some (.str (quotM x i) tm) ∧ l'.lookup ("text" : Str) = some (.str x t) ∧ l'.lookup ("signs" : Str) = some (.ref D)) ?_ ?_ ?_ ?_ (fun _ => by rfl)
  · intro k hk
    repeat' (first | exact hk | wtm_at "W")
  · exact ⟨_, by wtm_at "L", by wtm_at "L", by wtm_at "L"⟩
  · rintro i c u ti l1 Gb T hc ⟨tm, L1, L2, L3⟩ sb TT
    refine W_asgTupE hv' TT ?_ (by rfl) (by rfl)
    refine W_order_cons (W_asgName (W_store hv' ?_ (by kernel_rfl)))
    refine W_order_cons (W_asgName (W_store hv' ?_ (by kernel_rfl)))
    refine W_order_nil ?_
    have e1 : x.cps.getD i 0 = c := by rw [Array.getD_eq_getD_getElem?, hc]; rfl
    have hi : i < x.cps.size := by
      rcases Nat.lt_or_ge i x.cps.size with q | q
      · exact q
      · rw [Array.getElem?_eq_none q] at hc; cases hc
    have hi : i < 100 := Nat.lt_of_lt_of_le hi hx
    have ln := quotM_len x i
    have SDb := SDD.sub sb
    refine W_Assign (x := "made") (W_BinOp ?_) (hs := by kernel_rfl)
    wtm_at "W"
    refine W_cut (fun a => ∃ tq, a = .str (quotP c (Txt.slice x (some ((i : Int) + 1)) (some ((i : Int) + 2)))) tq) ?_ ?_
    · have get : ∀ (Gc : Led) (l3 : Locs) (us : Tok), Sub Gb Gc → W v' (call (.builtin "dict.get") [.ref D, .str (ch c) us, .str (ch c) us]) l3 Gc fun a l1 G1 => l1 = l3 ∧ Sub Gb G1 ∧ ∃ tq, a = .str ((sgL.lookup (ch c)).getD (ch c)) tq := by
        intro Gc l3 us s
        refine W_dget2 rfl (SDb.sub s).dd ?_
        obtain ⟨tq, e⟩ := ofS_get (ch c) us os
        exact ⟨rfl, s, tq, e⟩
      repeat' wtm_at "W"
      unfold quotP
      split
      · rename_i e
        rw [show (ch c == "#") = true from e, if_pos rfl]
        repeat' wtm_at "W"
        split
        · rename_i e2
          repeat' wtm_at "W"
          exact ⟨rfl, Sub.rfl, _, rfl⟩
        · rename_i e2
          repeat' wtm_at "W"
          refine W_m_dget SDb.dd ?_
          repeat' (first | exact get _ _ _ Sub.rfl | wtm_at "W")
      · rename_i e
        rw [show (ch c == "#") = false from Bool.eq_false_iff.mpr e, if_neg Bool.false_ne_true]
        repeat' wtm_at "W"
        refine W_m_dget SDb.dd ?_
        repeat' (first | exact get _ _ _ Sub.rfl | wtm_at "W")
    rintro _ ⟨tq, rfl⟩
    have lq := quotP_len c (Txt.slice x (some ((i : Int) + 1)) (some ((i : Int) + 2)))
    refine W_adds (by rw [sizeLine_eq]; omega) fun tm' => ?_
    refine W_store hv' ?_ (by kernel_rfl)
    refine W_nil ⟨rfl, Sub.rfl, tm', ?_, by wtm_at "L", by wtm_at "L"⟩
    rw [show quotM x (i + 1) = quotM x i ++ quotP (x.cps.getD i 0) (Txt.slice x (some ((i : Int) + 1)) (some ((i : Int) + 2))) from rfl, e1]
    exact look_hd
  · rintro l1 ⟨tm, L1, L2, L3⟩
    have ln := quotM_len x x.cps.size
    have hx' : x.cps.size ≤ 100 := hx
    repeat' wtm_at "W"
    refine W_adds (by rw [sizeLine_eq]; show 1 + _ ≤ _; omega) fun _ => ?_
    repeat' wtm_at "W"
    refine W_adds (by rw [sizeLine_eq, str_append_len]; show 1 + _ + 1 ≤ _; omega) fun _ => ?_
    exact ⟨_, Sub.cons, h _⟩
end
theorem kf_753 (P) : (K P).lookup 753 = some (k753 P) := by kernel_rfl
theorem kf_765 (P) : (K P).lookup 765 = some (k765 P) := by kernel_rfl
def keyL : List Str := ["k", "odd one", "w?"]
def markOf : TKey → Str
  | [.inl a, .inl x] => (if a == "sym" then "s" else "t") ++ x
  | [.inl _, .inr i] => "i" ++ iS i
  | _ => ""
/-- a written text: how it is quoted, how it is shown -/
theorem word_facts : ∀ w ∈ wordL, w.length ≤ 20 ∧ okText w = true ∧ quoted w = showText w := by
  have h : (wordL.all fun w => decide (w.length ≤ 20) && okText w && (quoted w == showText w)) = true := by kernel_rfl
  intro w hw
  have := List.all_eq_true.mp h w hw
  simp only [Bool.and_eq_true, decide_eq_true_eq, beq_iff_eq] at this
  exact ⟨this.1.1, this.1.2, this.2⟩
theorem quoted_len (x : Str) : (quoted x).length ≤ 2 * x.length + 2 := by
  have := quotM_len x x.cps.size
  unfold quoted
  rw [str_append_len, str_append_len]
  show 1 + _ + 1 ≤ 2 * x.cps.size + 2
  omega
def hasSp (x : Str) : Bool := !(Builtin.Str.occurrences x " " 0 x.length 1).isEmpty
theorem key_facts : ∀ w ∈ keyL, w.length ≤ 20 ∧ okText w = true ∧ (if hasSp w then quoted w else w) = (if isLabel w then w else showText w) := by
  have h : (keyL.all fun w => decide (w.length ≤ 20) && okText w && ((if hasSp w then quoted w else w) == (if isLabel w then w else showText w))) = true := by kernel_rfl
  intro w hw
  have := List.all_eq_true.mp h w hw
  simp only [Bool.and_eq_true, decide_eq_true_eq, beq_iff_eq] at this
  exact ⟨this.1.1, this.1.2, this.2⟩
theorem small_okI : ∀ i : Int, -60 ≤ i → i ≤ 100 → okI i = true := by
  have h : ((List.range 161).all fun n => okI ((n : Int) - 60)) = true := by kernel_rfl
  intro i h1 h2
  have := List.all_eq_true.mp h (i + 60).toNat (List.mem_range.mpr (by omega))
  rw [show (((i + 60).toNat : Nat) : Int) - 60 = i by omega] at this
  exact this
abbrev SL (p : WP) (b : Addr) : List Addr := [p.dw, p.dm, b]
/-- the world and the box -/
structure LG (w : World) (p : WP) (b : Addr) (tk : Int) (ob : Addr) (no : Int) (cm : Int) (G Z : Led) : Prop where
  T : ∃ num ms, WG w p (SL p b) tk ob no G Z num ms
  B : BX G b cm
  ne : b ≠ p.dw ∧ b ≠ p.dm
section
variable {w : World} {p : WP} {b : Addr} {tk : Int} {ob : Addr} {no : Int} {cm : Int} {G Z : Led}
theorem LG.zg (L : LG w p b tk ob no cm G Z) : Sub Z G := let ⟨_, _, T⟩ := L.T; T.W.st.zg
theorem LG.st (L : LG w p b tk ob no cm G Z) : Still (SL p b) G Z := let ⟨_, _, T⟩ := L.T; T.W.st
theorem LG.mono {cm' : Int} (L : LG w p b tk ob no cm G Z) (le : cm ≤ cm') : LG w p b tk ob no cm' G Z := ⟨L.T, L.B.mono le, L.ne⟩
theorem LG.sub {G' : Led} (L : LG w p b tk ob no cm G Z) (s : Sub G G') : LG w p b tk ob no cm G' Z := ⟨let ⟨n, m, T⟩ := L.T; ⟨n, m, T.sub s⟩, L.B.sub s, L.ne⟩
theorem LG.still {Z' : Led} (L : LG w p b tk ob no cm G Z) (st : Still (SL p b) G Z') (zz : Sub Z Z') : LG w p b tk ob no cm G Z' := ⟨let ⟨n, m, T⟩ := L.T; ⟨n, m, T.still st zz⟩, L.B, L.ne⟩
theorem sl_two : ∀ x ∈ [p.dw, p.dm], x ∈ SL p b := fun x h => by
  rcases List.mem_cons.mp h with rfl | h
  · exact .head _
  · rcases List.mem_cons.mp h with rfl | h
    · exact .tail _ (.head _)
    · cases h
theorem LG.grow {G' Z' : Led} {num : Int} {ms : List (Str × Value)} (L : LG w p b tk ob no cm G Z) (T : WG w p (SL p b) tk ob no G' Z' num ms) (g : Grow [p.dw, p.dm] G Z G' Z') : LG w p b tk ob no cm G' Z' ∧ Grow (SL p b) G Z G' Z' :=
  ⟨⟨⟨_, _, T⟩, L.B.grow g fun h => by
    rcases List.mem_cons.mp h with h | h
    · exact L.ne.1 h
    · exact L.ne.2 (by simpa using h), L.ne⟩, g.mono sl_two⟩
/-- an object that is younger than a ledger this one has grown from turns -/
theorem LG.fresh {G0 Z0 G' : Led} {a : Addr} (L0 : LG w p b tk ob no cm G0 Z0) (lt : ∀ q ∈ G0, q.1 < a) {cm' : Int} (L : LG w p b tk ob no cm' G Z) (bt : But a G G') (hz : ∀ q ∈ Z, q.1 ≠ a) : LG w p b tk ob no cm' G' Z := by
  obtain ⟨_, _, T0⟩ := L0.T
  have f := (T0.W.freshA lt).1
  exact ⟨let ⟨n, m, T⟩ := L.T; ⟨n, m, T.but bt f hz⟩, L.B.but bt fun e => f.1 (e ▸ .tail _ (.tail _ (.head _))), L.ne⟩
theorem LG.turn {G' : Led} {cm' : Int} (L : LG w p b tk ob no cm G Z) (bt : But b G G') (B : BX G' b cm') : LG w p b tk ob no cm' G' Z ∧ Grow (SL p b) G Z G' Z := by
  obtain ⟨num, ms, T⟩ := L.T
  have hb : ∃ o, (b, o) ∈ G' := B.mem.elim fun o h => h.elim fun _ h => h.elim fun _ h => ⟨o, h.1⟩
  obtain ⟨o1, o2, o3, o4, o5, o6⟩ := T.W.ok
  have hS : b ∈ SL p b := .tail _ (.tail _ (.head _))
  refine ⟨⟨⟨num, ms, T.grow ⟨let ⟨x, y, z, h⟩ := T.W.hx; ⟨x, y, z, h.but bt (ne_of_mem hS o3) L.ne.1.symm⟩, T.W.sm.but bt L.ne.2.symm, T.W.sn.but bt (ne_of_mem hS o4), T.W.sp.but bt (ne_of_mem hS o5), T.W.st.but bt hS hb, T.W.ok, T.W.ml, T.W.hi⟩ Sub.rfl Ext.rfl (Int.le_refl _)⟩, B, L.ne⟩, Grow.ofBut bt hS hb⟩
end
def keyCodes : List TKey := keyL.map (fun x => [.inl "sym", .inl x]) ++ [0, 1, 2].map (fun i : Int => [.inl "int", .inr i]) ++ wordL.map fun x => [.inl "text", .inl x]
theorem mark_inj : ∀ a ∈ keyCodes, ∀ b ∈ keyCodes, markOf a = markOf b → a = b := by
  have h : (keyCodes.all fun a => keyCodes.all fun b => (!(markOf a == markOf b) || decide (a = b))) = true := by kernel_rfl
  intro a ha b hb e
  have := List.all_eq_true.mp (List.all_eq_true.mp h a ha) b hb
  rw [e] at this
  simp only [beq_self_eq_true, Bool.not_true, Bool.false_or] at this
  exact of_decide_eq_true this
section
variable {v : V} {l : Locs} {G Z : Led} {nm : Str} {sc : Scope} {d : Nat} {k : Value → Locs → Led → Prop} {pos : Pos} {env : Env} {w : World} {p : WP} {b : Addr} {tk : Int} {ob : Addr} {no : Int} {cm : Int}
theorem take_law {many : Int} {t : Tok} (hv : Ok v nm sc (d + 1)) (L : LG w p b tk ob no cm G Z) (hc : cm ≤ 900000) (h1 : 1 ≤ many) (h2 : many ≤ 100)
    (h : ∀ r t G', LG w p b tk ob no (cm + 1) G' Z → Grow (SL p b) G Z G' Z → 0 ≤ r → r < many → k (.int r t) l G') : C v (.call (.ref 732) ⟨[.ref b, .int many t], []⟩) l G k :=
  take_spec hv L.B (by omega) h1 h2 fun r t G' bt B' r0 r1 => h r t G' (L.turn bt B').1 (L.turn bt B').2 r0 r1
theorem word_law (hv : Ok v nm sc (d + 2)) (L : LG w p b tk ob no cm G Z) (hc : cm ≤ 900000)
    (h : ∀ x t G', x ∈ wordL → LG w p b tk ob no (cm + 1) G' Z → Grow (SL p b) G Z G' Z → k (.str x t) l G') : C v (.call (.ref 746) ⟨[.ref b], []⟩) l G k :=
  word_spec hv L.B (by omega) fun x t G' hx bt B' => h x t G' hx (L.turn bt B').1 (L.turn bt B').2
theorem W_world {name : Str} {f : Addr} {pl : Sem Bool} {k : Value × List Value → Locs → Led → Prop} (hv : Ok v nm sc d) (L : LG w p b tk ob no cm G Z) (ok : methOk (K v.w.params) 714 name f = true) (hm : name ∈ wno) (h : k (.ref f, [.ref p.wd]) l G) : W v (getMethod (.ref p.wd) name pl) l G k :=
  let ⟨_, _, T⟩ := L.T; let ⟨_, _, _, I⟩ := T.W.hx; W_methodX hv I ok (wnoIn hm) h
theorem text_law {s : Str} {t : Tok} (hw : v.w = w) (hv : Ok v nm sc 21) (L : LG w p b tk ob no cm G Z)
    (c : ∀ a G' Z', LG w p b tk ob no cm G' Z' → Grow (SL p b) G Z G' Z' → Has Z' a 62 [("text", .str s t), ("frozen", .bool false)] → k (.ref a) l G') : C v (.call (.ref 578) ⟨[.ref p.wd, .str s t], []⟩) l G k := by
  obtain ⟨_, _, T⟩ := L.T
  refine text_spec hw hv T fun a dx G3 Z3 n3 m3 T3 g3 le3 e3 I3 lx1 lx2 lz => ?_
  obtain ⟨L3, g3⟩ := L.grow T3 g3
  obtain ⟨Z4, g4, zg4, zz4, Iz⟩ := g3.freeze L3.zg I3 lx1 lx2
  exact c a G3 Z4 (L3.still (L.st.grow g4 zg4) zz4) g4 Iz.has
theorem key_spec (hw : v.w = w) (hv : Ok v nm sc 22) (L : LG w p b tk ob no cm G Z) (hc : cm ≤ 800000)
    (c : ∀ t ta tm key ahead code G' Z', LG w p b tk ob no (cm + 2) G' Z' → Grow (SL p b) G Z G' Z' → (∀ q ∈ G, q.1 < t) → TL G' t [key, .str ahead ta, .str (markOf code) tm] → KeyS Z' key code ahead → code ∈ keyCodes → k (.ref t) l G') : C v (.call (.ref 753) ⟨[.ref b, .ref p.wd], []⟩) l G k := by
  refine C_fnP hv (kf_753 _) (by kernel_rfl) [("world", .ref p.wd), ("box", .ref b)] (fun S => by kernel_rfl) (by kernel_rfl) fun v' hv' hw' => ?_
  have hw2 := hw'.trans hw
  refine W_Assign (x := "way") ?_ (hs := by kernel_rfl)
  repeat' wtm_at "W"
  refine W_call (take_law (hv'.less (e := 0 + 1) (by omega)) L (by omega) (by decide) (by decide) fun r tr G1 L1 g1 r0 r1 => ?_)
  have hr : r = 0 ∨ r = 1 ∨ r = 2 := by omega
  rcases hr with rfl | rfl | rfl
  · repeat' wtm_at "W"
    with_reducible refine itT (by with_unfolding_all rfl) ?_
    repeat' wtm_at "W"
    rename_i x ta ltA PA tt
    refine W_call (take_law (hv'.less (e := 0 + 1) (by omega)) (L1.sub Sub.cons) (by omega) (by decide) (by decide) fun r tr G2 L2 g2 r0 r1 => ?_)
    have nx := (L1.T.elim fun _ h => h.elim fun _ T => (T.W.freshA ltA).1)
    obtain ⟨y, ty, P2, h1, h2⟩ := (PA.grow g2 nx.1).pick (xs := keyL) (.cons (.cons (.cons .nil))) (i := r.toNat) (by show r.toNat < 3; omega)
    refine W_sub_list P2.il r0 (by omega) h1 ?_ rfl
    obtain ⟨hy1, hy2, hy3⟩ := key_facts y (List.mem_of_getElem? h2)
    have yk : [.inl "sym", .inl y] ∈ keyCodes := List.mem_append_left _ (List.mem_append_left _ (List.mem_map_of_mem (List.mem_of_getElem? h2)))
    have ql := quoted_len y
    have g12 := g1.trans ((Grow.ofSub Sub.cons).trans g2)
    have fin : ∀ (q : Str) (tq tm : Tok) (t : Addr) (o : Obj), q = (if isLabel y then y else showText y) → (∀ q ∈ G2, q.1 < t) → TL ((t, o) :: G2) t [.str y ty, .str (q ++ ": ") tq, .str ("s" ++ y) tm] → ∃ G3, Sub G3 ((t, o) :: G2) ∧ k (.ref t) l G3 := fun q tq tm t o e lt TT => by
      subst e
      exact ⟨_, Sub.rfl, c t tq tm _ _ [.inl "sym", .inl y] _ _ ((L2.mono (by omega)).sub Sub.cons) (g12.sub Sub.cons) (g12.lt lt) TT (.sym hy1 hy2) yk⟩
    repeat' wtm_at "W"
    cases hs : hasSp y with
    | true =>
      rw [hs, if_pos rfl] at hy3
      refine itF (by unfold hasSp at hs; simpa using hs) ?_
      repeat' wtm_at "W"
      refine W_call (quoted_spec (d := 0) hw2 (hv'.less (by omega)) (by omega) fun _ => ?_)
      repeat' wtm_at "W"
      refine W_adds (by rw [sizeLine_eq]; show _ + 2 ≤ _; omega) fun _ => ?_
      repeat' wtm_at "W"
      refine W_adds (by rw [sizeLine_eq]; show 1 + _ ≤ _; omega) fun _ => ?_
      repeat' wtm_at "W"
      exact fin _ _ _ _ _ hy3 (by assumption) (by assumption)
    | false =>
      rw [hs, if_neg Bool.false_ne_true] at hy3
      refine itT (by unfold hasSp at hs; simpa using hs) ?_
      repeat' wtm_at "W"
      refine W_adds (by rw [sizeLine_eq]; show _ + 2 ≤ _; omega) fun _ => ?_
      repeat' wtm_at "W"
      refine W_adds (by rw [sizeLine_eq]; show 1 + _ ≤ _; omega) fun _ => ?_
      repeat' wtm_at "W"
      exact fin _ _ _ _ _ hy3 (by assumption) (by assumption)
  · repeat' wtm_at "W"
    with_reducible refine itF (by with_unfolding_all rfl) ?_
    repeat' wtm_at "W"
    with_reducible refine itT (by with_unfolding_all rfl) ?_
    repeat' wtm_at "W"
    refine W_call (take_law (hv'.less (e := 0 + 1) (by omega)) L1 (by omega) (by decide) (by decide) fun r tr G2 L2 g2 r0 r1 => ?_)
    have oi := small_okI r (by omega) (by omega)
    have hr : [.inl "int", .inr r] ∈ keyCodes := by
      have : r = 0 ∨ r = 1 ∨ r = 2 := by omega
      refine List.mem_append_left _ (List.mem_append_right _ (List.mem_map_of_mem ?_))
      rcases this with rfl | rfl | rfl <;> decide
    obtain ⟨oi1, oi2⟩ : r.natAbs.log2 < 1920 ∧ (iS r).length ≤ 30 := by unfold okI at oi; simpa using oi
    repeat' wtm_at "W"
    refine W_str_int oi1 fun _ => ?_
    repeat' wtm_at "W"
    refine W_adds (by rw [sizeLine_eq]; show (iS r).length + 4 ≤ _; omega) fun _ => ?_
    repeat' wtm_at "W"
    refine W_str_int oi1 fun _ => ?_
    repeat' wtm_at "W"
    refine W_adds (by rw [sizeLine_eq]; show 1 + (iS r).length ≤ _; omega) fun _ => ?_
    repeat' wtm_at "W"
    have g12 := g1.trans g2
    exact ⟨_, Sub.rfl, c _ _ _ _ (iS r ++ " => ") [.inl "int", .inr r] _ _ ((L2.mono (by omega)).sub Sub.cons) (g12.sub Sub.cons) (g12.lt (by assumption)) (by assumption) (.int oi) hr⟩
  · repeat' wtm_at "W"
    with_reducible refine itF (by with_unfolding_all rfl) ?_
    repeat' wtm_at "W"
    with_reducible refine itF (by with_unfolding_all rfl) ?_
    repeat' wtm_at "W"
    refine W_call (word_law (d := 0) (hv'.less (by omega)) L1 (by omega) fun x tx G2 hx L2 g2 => ?_)
    obtain ⟨hx1, hx2, hx3⟩ := word_facts x hx
    have g2 := g1.trans g2
    repeat' wtm_at "W"
    refine W_world hv' L2 (f := 578) (by kernel_rfl) (by decide) ?_
    repeat' wtm_at "W"
    refine W_call (text_law hw2 hv' L2 fun a G3 Z3 L3 g3 I3 => ?_)
    have ql := quoted_len x
    repeat' wtm_at "W"
    refine W_call (quoted_spec (d := 0) hw2 (hv'.less (by omega)) (by omega) fun _ => ?_)
    repeat' wtm_at "W"
    refine W_adds (by rw [sizeLine_eq]; show _ + 4 ≤ _; omega) fun _ => ?_
    repeat' wtm_at "W"
    refine W_adds (by rw [sizeLine_eq]; show 1 + _ ≤ _; omega) fun _ => ?_
    repeat' wtm_at "W"
    have gx := g2.trans g3
    refine ⟨_, Sub.rfl, c _ _ _ _ _ [.inl "text", .inl x] _ _ ((L3.mono (by omega)).sub Sub.cons) (gx.sub Sub.cons) (gx.lt (by assumption)) (by assumption) ?_ (List.mem_append_right _ (List.mem_map_of_mem hx))⟩
    rw [hx3]
    exact .text I3 hx1 hx2
end
section
variable {v : V} {l : Locs} {G Z : Led} {nm : Str} {sc : Scope} {d : Nat} {k : Value → Locs → Led → Prop} {pos : Pos} {env : Env} {w : World} {p : WP} {b : Addr} {tk : Int} {ob : Addr} {no : Int} {cm : Int}
theorem builtin_law {x : Str} {t : Tok} {D : Nat} (hb : BOk D x ["Object"]) (hD : D ≤ 20) (hx : x.length ≤ 50) (hw : v.w = w) (hv : Ok v nm sc 20) (L : LG w p b tk ob no cm G Z)
    (c : ∀ a G' Z', LG w p b tk ob no cm G' Z' → Grow (SL p b) G Z G' Z' → MX Z' a x → k (.ref a) l G') : C v (.call (.ref 516) ⟨[.ref p.wd, .str x t], []⟩) l G k := by
  obtain ⟨_, _, T⟩ := L.T
  refine builtinG hb hD hw hv T fun a G' Z' num' ms' T' g' le e at' on => ?_
  obtain ⟨n, ⟨t', tn, h⟩, _⟩ := on
  obtain ⟨L', g'⟩ := L.grow T' g'
  exact c a G' Z' L' g' ⟨hx, .inl ⟨t', h.weak (reqB_cons (by wtm_at "L") (reqB_cons (by wtm_at "L") (reqB_cons (by wtm_at "L") reqB_nil)))⟩⟩
theorem number_law (hv : Ok v nm sc (d + 1)) (L : LG w p b tk ob no cm G Z) (c : ∀ n t G', LG w p b tk ob no cm G' Z → Grow (SL p b) G Z G' Z → k (.int n t) l G') : C v (.call (.ref 495) ⟨[.ref p.wd], []⟩) l G k := by
  obtain ⟨_, _, T⟩ := L.T
  exact numberG hv T fun t G' g T' => c _ t G' (L.grow T' g).1 (L.grow T' g).2
def MsgO (Z : Led) (u : Value) : Option Str → Prop
  | none => u = .none
  | some s => Msg Z u s
theorem err_new {m : Addr} {n u : Value} {name : Str} {mm : Option Str} (hv : Ok v nm sc (d + 3)) (L : LG w p b tk ob no cm G Z) (M : MX Z m name) (U : MsgO Z u mm)
    (c : ∀ e G' Z', LG w p b tk ob no cm G' Z' → Grow (SL p b) G Z G' Z' → Err Z' e name mm → k (.ref e) l G') : W v (call (.ref 181) [n, .ref m, u]) l G k := by
  refine W_newI (d := d + 2) hv (fI := 178) (by kernel_rfl) (by kernel_rfl) (by kernel_rfl) fun v2 x dx G1 hv2 hw2 lx1 lx2 sb I1 _ => ?_
  refine error_init (d := d) hv2 I1 fun G2 b2 I2 => ⟨rfl, ?_⟩
  have L2 := L.fresh lx1 (L.sub sb) b2 fun q hq => Nat.ne_of_lt (lx1 q (L.zg q hq))
  have g2 := (Grow.ofSub (S := SL p b) (Z := Z) sb).fresh b2 lx1
  obtain ⟨Z4, g4, zg4, zz4, Iz⟩ := g2.freeze L2.zg I2 lx1 lx2
  refine c x G2 Z4 (L2.still (L.st.grow g4 zg4) zz4) g4 ⟨m, u, Iz.has, M.sub zz4, ?_⟩
  cases mm with
  | none => exact U
  | some s => exact Msg.sub U zz4
theorem error_spec (hw : v.w = w) (hv : Ok v nm sc 22) (L : LG w p b tk ob no cm G Z) (hc : cm ≤ 800000)
    (c : ∀ t tn ts e name m said G' Z', LG w p b tk ob no (cm + 3) G' Z' → Grow (SL p b) G Z G' Z' → (∀ q ∈ G, q.1 < t) → TL G' t [.ref e, .str name tn, .str said ts] → Err Z' e name m → (m = none ∧ said = name ∨ m = some said) → said.length ≤ 50 → name.length ≤ 50 → (name == "") = false → k (.ref t) l G') : C v (.call (.ref 765) ⟨[.ref b, .ref p.wd], []⟩) l G k := by
  refine C_fnP hv (kf_765 _) (by kernel_rfl) [("world", .ref p.wd), ("box", .ref b)] (fun S => by kernel_rfl) (by kernel_rfl) fun v' hv' hw' => ?_
  have hw2 := hw'.trans hw
  have tail : ∀ (L0 : Locs) G1 Z1 m name tn, L0.lookup ("box" : Str) = some (.ref b) → L0.lookup ("world" : Str) = some (.ref p.wd) → L0.lookup ("module" : Str) = some (.ref m) → L0.lookup ("name" : Str) = some (.str name tn) → LG w p b tk ob no (cm + 1) G1 Z1 → Grow (SL p b) G Z G1 Z1 → MX Z1 m name → (name == "") = false →
      W v' (execs (List.drop 2 (fbody (topS 53))) (v'.env "_law_error" (fscope (topS 53)))) L0 G1 fun fl _ G' => ∃ G2, Sub G2 G' ∧ k (retV fl) l G2 := by
    intro L0 G1 Z1 m name tn l1 l2 l3 l4 L1 g1 M1 ne1
    have mk : ∀ (e : Addr) (mm : Option Str) (said : Str) ts (Ga Za : Led) t o, LG w p b tk ob no (cm + 3) Ga Za → Grow (SL p b) G1 Z1 Ga Za → (∀ q ∈ Ga, q.1 < t) → TL ((t, o) :: Ga) t [.ref e, .str name tn, .str said ts] → Err Za e name mm → (mm = none ∧ said = name ∨ mm = some said) → said.length ≤ 50 → ∃ G2, Sub G2 ((t, o) :: Ga) ∧ k (.ref t) l G2 :=
      fun e mm said ts Ga Za t o La ga lt TT E h le => ⟨_, Sub.rfl, c t tn ts e name mm said _ Za (La.sub Sub.cons) ((g1.trans ga).sub Sub.cons) ((g1.trans ga).lt lt) TT E h le M1.1 ne1⟩
    refine W_Assign (x := "way") ?_ (hs := by kernel_rfl)
    repeat' wtm_at "W"
    refine W_call (take_law (hv'.less (e := 0 + 1) (by omega)) L1 (by omega) (by decide) (by decide) fun r tr G2 L2 g2 r0 r1 => ?_)
    have hr : r = 0 ∨ r = 1 ∨ r = 2 ∨ r = 3 := by omega
    rcases hr with rfl | rfl | rfl | rfl
    · repeat' wtm_at "W"
      with_reducible refine itT (by with_unfolding_all rfl) ?_
      repeat' wtm_at "W"
      refine W_world hv' L2 (f := 495) (by kernel_rfl) (by decide) ?_
      repeat' wtm_at "W"
      refine W_call (number_law (d := 0) (hv'.less (by omega)) L2 fun n tn G3 L3 g3 => ?_)
      repeat' wtm_at "W"
      refine err_new (d := 0) (mm := none) (hv'.less (by omega)) L3 M1 rfl fun e G4 Z4 L4 g4 E4 => ?_
      repeat' wtm_at "W"
      exact mk e none name _ _ _ _ _ (L4.mono (by omega)) (g2.trans (g3.trans g4)) (by assumption) (by assumption) E4 (.inl ⟨rfl, rfl⟩) M1.1
    · repeat' wtm_at "W"
      with_reducible refine itF (by with_unfolding_all rfl) ?_
      repeat' wtm_at "W"
      with_reducible refine itT (by with_unfolding_all rfl) ?_
      repeat' wtm_at "W"
      refine W_world hv' L2 (f := 495) (by kernel_rfl) (by decide) ?_
      repeat' wtm_at "W"
      refine W_call (number_law (d := 0) (hv'.less (by omega)) L2 fun n tn G3 L3 g3 => ?_)
      repeat' wtm_at "W"
      refine W_world hv' L3 (f := 578) (by kernel_rfl) (by decide) ?_
      repeat' wtm_at "W"
      refine W_call (text_law hw2 hv' L3 fun a G4 Z4 L4 g4 I4 => ?_)
      repeat' wtm_at "W"
      refine err_new (d := 0) (mm := some "") (hv'.less (by omega)) L4 (M1.sub g4.zz) (Msg.text (I4.weak (reqB_cons (by wtm_at "L") reqB_nil)) (by decide)) fun e G5 Z5 L5 g5 E5 => ?_
      repeat' wtm_at "W"
      exact mk e (some "") "" _ _ _ _ _ (L5.mono (by omega)) (g2.trans (g3.trans (g4.trans g5))) (by assumption) (by assumption) E5 (.inr rfl) (by decide)
    · repeat' wtm_at "W"
      with_reducible refine itF (by with_unfolding_all rfl) ?_
      repeat' wtm_at "W"
      with_reducible refine itF (by with_unfolding_all rfl) ?_
      repeat' wtm_at "W"
      with_reducible refine itT (by with_unfolding_all rfl) ?_
      repeat' wtm_at "W"
      refine W_call (word_law (d := 0) (hv'.less (by omega)) L2 (by omega) fun x tx G3 hx L3 g3 => ?_)
      obtain ⟨hx1, hx2, hx3⟩ := word_facts x hx
      repeat' wtm_at "W"
      refine W_world hv' L3 (f := 495) (by kernel_rfl) (by decide) ?_
      repeat' wtm_at "W"
      refine W_call (number_law (d := 0) (hv'.less (by omega)) L3 fun n tn G4 L4 g4 => ?_)
      repeat' wtm_at "W"
      refine W_world hv' L4 (f := 578) (by kernel_rfl) (by decide) ?_
      repeat' wtm_at "W"
      refine W_call (text_law hw2 hv' L4 fun a G5 Z5 L5 g5 I5 => ?_)
      repeat' wtm_at "W"
      refine err_new (d := 0) (mm := some x) (hv'.less (by omega)) L5 (M1.sub g5.zz) (Msg.text (I5.weak (reqB_cons (by wtm_at "L") reqB_nil)) hx1) fun e G6 Z6 L6 g6 E6 => ?_
      repeat' wtm_at "W"
      exact mk e (some x) x _ _ _ _ _ (L6.mono (by omega)) (g2.trans (g3.trans (g4.trans (g5.trans g6)))) (by assumption) (by assumption) E6 (.inr rfl) (by omega)
    · repeat' wtm_at "W"
      with_reducible refine itF (by with_unfolding_all rfl) ?_
      repeat' wtm_at "W"
      with_reducible refine itF (by with_unfolding_all rfl) ?_
      repeat' wtm_at "W"
      with_reducible refine itF (by with_unfolding_all rfl) ?_
      repeat' wtm_at "W"
      refine W_call (take_law (hv'.less (e := 0 + 1) (by omega)) L2 (by omega) (by decide) (by decide) fun r tr G3 L3 g3 r0 r1 => ?_)
      have oi := small_okI r (by omega) (by omega)
      have om : Int.fmod r 2 = 0 ∨ Int.fmod r 2 = 1 := by
        have h0 := Int.fmod_nonneg_of_pos r (show (0 : Int) < 2 by decide)
        have h1 := Int.fmod_lt_of_pos r (show (0 : Int) < 2 by decide)
        omega
      obtain ⟨oi1, oi2⟩ : r.natAbs.log2 < 1920 ∧ (iS r).length ≤ 30 := by unfold okI at oi; simpa using oi
      repeat' wtm_at "W"
      refine W_world hv' L3 (f := 495) (by kernel_rfl) (by decide) ?_
      repeat' wtm_at "W"
      refine W_call (number_law (d := 0) (hv'.less (by omega)) L3 fun n tn G4 L4 g4 => ?_)
      repeat' wtm_at "W"
      refine W_mod (by decide) fun _ => ?_
      rename_i al ol ltl Pl _ _
      rcases om with e | e
      · rw [e]
        refine W_sub_list Pl.il (by decide) (by decide) rfl ?_ rfl
        repeat' wtm_at "W"
        refine err_new (d := 0) (mm := some (iS r)) (hv'.less (by omega)) (L4.sub Sub.cons) M1 (Msg.flat (.int oi1 oi2) nofun) fun e6 G6 Z6 L6 g6 E6 => ?_
        repeat' wtm_at "W"
        refine W_str_int oi1 fun _ => ?_
        repeat' wtm_at "W"
        refine W_mod (by decide) fun _ => ?_
        rw [e]
        rename_i al2 ol2 ltl2 Pl2 _ _
        refine W_sub_list Pl2.il (by decide) (by decide) rfl ?_ rfl
        repeat' wtm_at "W"
        exact mk e6 (some (iS r)) (iS r) _ _ Z6 _ _ ((L6.mono (by omega)).sub Sub.cons) ((g2.trans (g3.trans (g4.trans ((Grow.ofSub Sub.cons).trans g6)))).sub Sub.cons) (by assumption) (by assumption) E6 (.inr rfl) (by omega)
      · rw [e]
        refine W_sub_list Pl.il (by decide) (by decide) rfl ?_ rfl
        repeat' wtm_at "W"
        refine err_new (d := 0) (mm := some (symShow "s")) (hv'.less (by omega)) (L4.sub Sub.cons) M1 (Msg.flat (.sym (by decide) (by kernel_rfl)) nofun) fun e6 G6 Z6 L6 g6 E6 => ?_
        repeat' wtm_at "W"
        refine W_str_int oi1 fun _ => ?_
        repeat' wtm_at "W"
        refine W_mod (by decide) fun _ => ?_
        rw [e]
        rename_i al2 ol2 ltl2 Pl2 _ _
        refine W_sub_list Pl2.il (by decide) (by decide) rfl ?_ rfl
        repeat' wtm_at "W"
        exact mk e6 (some (symShow "s")) ":s" _ _ Z6 _ _ ((L6.mono (by omega)).sub Sub.cons) ((g2.trans (g3.trans (g4.trans ((Grow.ofSub Sub.cons).trans g6)))).sub Sub.cons) (by assumption) (by assumption) E6 (.inr (congrArg some (by kernel_rfl))) (by decide)
  refine W_Assign (x := "way") ?_ (hs := by kernel_rfl)
  repeat' wtm_at "W"
  refine W_call (take_law (hv'.less (e := 0 + 1) (by omega)) L (by omega) (by decide) (by decide) fun r tr G1 L1 g1 r0 r1 => ?_)
  repeat' wtm_at "W"
  cases hr : decide (r < 2) with
  | true =>
    have hr : r < 2 := of_decide_eq_true hr
    repeat' wtm_at "W"
    refine W_AssignTup ?_
    repeat' wtm_at "W"
    refine W_world hv' L1 (f := 516) (by kernel_rfl) (by decide) ?_
    repeat' wtm_at "W"
    refine W_call (builtin_law (@bKey _ (by decide)) (by decide) (by decide) hw2 (hv'.less (by omega)) L1 fun a1 G2 Z2 L2 g2 M2 => ?_)
    repeat' wtm_at "W"
    rename_i t1 o1 lt1 TT1
    have L2' := L2.sub (Sub.cons (p := (t1, o1)))
    refine W_world hv' L2' (f := 516) (by kernel_rfl) (by decide) ?_
    repeat' wtm_at "W"
    refine W_call (builtin_law (@bType _ (by decide)) (by decide) (by decide) hw2 (hv'.less (by omega)) L2' fun a3 G3 Z3 L3 g3 M3 => ?_)
    repeat' wtm_at "W"
    rename_i t3 o3 lt3 TT3 al ol ltl Pl
    have f2 := (L1.T.elim fun _ h => h.elim fun _ T => (T.W.freshA (g2.lt lt1)).1)
    have TT1' : TL ((al, ol) :: (t3, o3) :: G3) t1 _ := let ⟨o, m, q⟩ := TT1; ⟨o, .tail _ (.tail _ (g3.but _ m f2.1)), q⟩
    have hr2 : r = 0 ∨ r = 1 := by omega
    have L3' := (L3.sub (Sub.cons (p := (t3, o3)))).sub (Sub.cons (p := (al, ol)))
    have g13 := (((g1.trans g2).sub (Sub.cons (p := (t1, o1)))).trans g3).sub ((Sub.cons (p := (t3, o3))).trans (Sub.cons (p := (al, ol))))
    rcases hr2 with rfl | rfl
    · refine W_sub_list Pl.il (by decide) (by decide) rfl ?_ rfl
      refine W_asgTupE hv' TT1' ?_ (by rfl) (by rfl)
      refine W_order_cons (W_asgName (W_store hv' ?_ (by kernel_rfl)))
      refine W_order_cons (W_asgName (W_store hv' ?_ (by kernel_rfl)))
      refine W_order_nil (W_nil (Nx_next ?_))
      exact tail _ _ Z3 a1 _ _ (by wtm_at "L") (by wtm_at "L") (by wtm_at "L") (by wtm_at "L") L3' g13 (M2.sub g3.zz) (by decide)
    · refine W_sub_list Pl.il (by decide) (by decide) rfl ?_ rfl
      refine W_asgTupE hv' (TT3.sub Sub.cons) ?_ (by rfl) (by rfl)
      refine W_order_cons (W_asgName (W_store hv' ?_ (by kernel_rfl)))
      refine W_order_cons (W_asgName (W_store hv' ?_ (by kernel_rfl)))
      refine W_order_nil (W_nil (Nx_next ?_))
      exact tail _ _ Z3 a3 _ _ (by wtm_at "L") (by wtm_at "L") (by wtm_at "L") (by wtm_at "L") L3' g13 M3 (by decide)
  | false =>
    have hr : 2 ≤ r := by have := of_decide_eq_false hr; omega
    repeat' wtm_at "W"
    refine W_world hv' L1 (f := 536) (by kernel_rfl) (by decide) ?_
    repeat' wtm_at "W"
    obtain ⟨_, _, T1⟩ := L1.T
    refine W_call (new_module_spec hw2 hv' T1 (newArgs1 _ _ _ _) (.inl rfl) (.inl rfl) fun ma G2 Z2 n2 ms2 nn tnn T2 g2 le2 e2 Ha no1 => ?_)
    obtain ⟨L2, g2⟩ := L1.grow T2 g2
    repeat' wtm_at "W"
    refine W_world hv' L2 (f := 536) (by kernel_rfl) (by decide) ?_
    repeat' wtm_at "W"
    refine W_world hv' L2 (f := 516) (by kernel_rfl) (by decide) ?_
    repeat' wtm_at "W"
    refine W_call (builtin_law (@bStandard _ (by decide)) (by decide) (by decide) hw2 (hv'.less (by omega)) L2 fun sa G3 Z3 L3 g3 M3 => ?_)
    have Ha3 := Ha.sub g3.zz
    repeat' wtm_at "W"
    obtain ⟨_, _, T3⟩ := L3.T
    have hr2 : r = 2 ∨ r = 3 := by omega
    rcases hr2 with rfl | rfl
    · with_reducible refine itT (by with_unfolding_all rfl) ?_
      repeat' wtm_at "W"
      refine W_call (new_module_spec hw2 hv' T3 (newArgs2 _ _ _ _ _ _) (.inr rfl) (.inr ⟨_, _, _, _, _, rfl, Ha3, by omega⟩) fun mo G4 Z4 n4 ms4 nn4 tn4 T4 g4 le4 e4 Hm no4 => ?_)
      obtain ⟨L4, g4⟩ := L3.grow T4 g4
      repeat' wtm_at "W"
      with_reducible refine itT (by with_unfolding_all rfl) ?_
      repeat' (first | ((with_reducible show W _ (execs _ _) _ _ _); exact tail _ G4 Z4 mo "A::Oops" _ (by wtm_at "L") (by wtm_at "L") (by wtm_at "L") (by wtm_at "L") L4 (g1.trans (g2.trans (g3.trans g4))) ⟨by decide, .inr ⟨_, ma, "A", "Oops", by kernel_rfl, Hm.weak (reqB_cons (by wtm_at "L") (reqB_cons (by wtm_at "L") (reqB_cons (by wtm_at "L") reqB_nil))), _, (Ha3.sub g4.zz).weak (reqB_cons (by wtm_at "L") (reqB_cons (by wtm_at "L") (reqB_cons (by wtm_at "L") reqB_nil)))⟩⟩ (by decide)) | wtm_at "W")
    · with_reducible refine itF (by with_unfolding_all rfl) ?_
      repeat' wtm_at "W"
      refine W_call (new_module_spec hw2 hv' T3 (newArgs2 _ _ _ _ _ _) (.inr rfl) (.inl rfl) fun mo G4 Z4 n4 ms4 nn4 tn4 T4 g4 le4 e4 Hm no4 => ?_)
      obtain ⟨L4, g4⟩ := L3.grow T4 g4
      repeat' wtm_at "W"
      with_reducible refine itF (by with_unfolding_all rfl) ?_
      repeat' (first | ((with_reducible show W _ (execs _ _) _ _ _); exact tail _ G4 Z4 mo "Oops" _ (by wtm_at "L") (by wtm_at "L") (by wtm_at "L") (by wtm_at "L") L4 (g1.trans (g2.trans (g3.trans g4))) ⟨by decide, .inl ⟨_, Hm.weak (reqB_cons (by wtm_at "L") (reqB_cons (by wtm_at "L") (reqB_cons (by wtm_at "L") reqB_nil)))⟩⟩ (by decide)) | wtm_at "W")
end
local macro_rules | `(tactic| wtm_at "Q") => `(tactic| first | ((with_reducible refine it_I ?_); first | with_reducible refine itT (by with_unfolding_all rfl) ?_ | with_reducible refine itF (by with_unfolding_all rfl) ?_) | wtm_at "W")
theorem kf_758 (P) : (K P).lookup 758 = some (k758 P) := by kernel_rfl
def nameL : List Str := ["s", "odd one", "x=", "+", "[]"]
theorem name_facts : ∀ w ∈ nameL, w.length ≤ 20 ∧ okText w = true ∧ ":" ++ (if hasSp w then quoted w else w) = symShow w := by
  have h : (nameL.all fun w => decide (w.length ≤ 20) && okText w && (":" ++ (if hasSp w then quoted w else w) == symShow w)) = true := by kernel_rfl
  intro w hw
  have := List.all_eq_true.mp h w hw
  simp only [Bool.and_eq_true, decide_eq_true_eq, beq_iff_eq] at this
  exact ⟨this.1.1, this.1.2, this.2⟩
theorem okI_parts {i : Int} (h : okI i = true) : i.natAbs.log2 < 1920 ∧ (iS i).length ≤ 30 := by unfold okI at h; simpa using h
section
variable {v : V} {l : Locs} {G Z : Led} {nm : Str} {sc : Scope} {d : Nat} {k : Value → Locs → Led → Prop} {pos : Pos} {env : Env} {w : World} {p : WP} {b : Addr} {tk : Int} {ob : Addr} {no : Int} {cm : Int}
theorem TL.grow {S : List Addr} {G' Z' : Led} {t : Addr} {vs : List Value} (h : TL G t vs) (g : Grow S G Z G' Z') (ne : t ∉ S) : TL G' t vs := let ⟨o, m, q⟩ := h; ⟨o, g.but _ m ne, q⟩
theorem LG.nin (L : LG w p b tk ob no cm G Z) {a : Addr} (lt : ∀ q ∈ G, q.1 < a) : a ∉ SL p b := let ⟨_, _, T⟩ := L.T; (T.W.freshA lt).1.1
theorem itCut {α : Type} {cb : Bool} {A B : Sem α} {K : α → Locs → Led → Prop} (P : α → Prop) (hA : cb = true → W v A l G fun a l1 G1 => l1 = l ∧ Sub G G1 ∧ P a) (hB : cb = false → W v B l G fun a l1 G1 => l1 = l ∧ Sub G G1 ∧ P a) (h : ∀ a, P a → K a l G) : if cb = true then W v A l G K else W v B l G K := by
  cases cb
  · exact W_cut P (hB rfl) h
  · exact W_cut P (hA rfl) h
theorem val_leaf {r : Int} {tr : Tok} {L0 : Locs} {kf : Flow → Locs → Led → Prop} (hw : v.w = w) (hv : Ok v "_law_value" (fscope (topS 52)) 23) (L : LG w p b tk ob no cm G Z) (hc : cm ≤ 700000) (hr : r = 0 ∨ r = 1 ∨ r = 2 ∨ r = 3 ∨ r = 4 ∨ r = 5 ∨ r = 6)
    (l1 : L0.lookup ("box" : Str) = some (.ref b)) (l2 : L0.lookup ("world" : Str) = some (.ref p.wd)) (l3 : L0.lookup ("way" : Str) = some (.int r tr))
    (c0 : ∀ t ts u s l' G' Z', LG w p b tk ob no (cm + 4) G' Z' → Grow (SL p b) G Z G' Z' → (∀ q ∈ G, q.1 < t) → TL G' t [u, .str s ts] → Leaf Z' u s → kf (.ret (.ref t)) l' G') :
    W v (execs (List.drop 2 (fbody (topS 52))) (v.env "_law_value" (fscope (topS 52)))) L0 G kf := by
  have c : ∀ t o ts u s l' G' Z', LG w p b tk ob no (cm + 4) G' Z' → Grow (SL p b) G Z G' Z' → (∀ q ∈ G', q.1 < t) → TL ((t, o) :: G') t [u, .str s ts] → Leaf Z' u s → kf (.ret (.ref t)) l' ((t, o) :: G') :=
    fun t o ts u s l' G' Z' L' g' lt TT R => c0 t ts u s l' _ Z' (L'.sub Sub.cons) (g'.sub Sub.cons) (g'.lt lt) TT R
  refine W_If ?_
  rcases hr with rfl | rfl | rfl | rfl | rfl | rfl | rfl
  · repeat' wtm_at "Q"
    rename_i t1 o1 lt1 TT1 _ t2 o2 lt2 TT2 _ t3 o3 lt3 TT3 al ol ltl Pl _
    have s1 : Sub G ((al, ol) :: (t3, o3) :: (t2, o2) :: (t1, o1) :: G) := fun q h => .tail _ (.tail _ (.tail _ (.tail _ h)))
    have La := L.sub s1
    refine W_call (take_law (d := 0) (hv.less (by omega)) La (by omega) (by decide) (by decide) fun r tr G2 L2 g2 r0 r1 => ?_)
    have m2 : ∀ q ∈ G, q.1 < t2 := fun q h => lt2 q (.tail _ h)
    have m3 : ∀ q ∈ G, q.1 < t3 := fun q h => lt3 q (.tail _ (.tail _ h))
    have P2 := Pl.grow g2 (L.nin fun q h => ltl q (.tail _ (.tail _ (.tail _ h))))
    have g := (Grow.ofSub s1).trans g2
    have hr : r = 0 ∨ r = 1 ∨ r = 2 := by omega
    rcases hr with rfl | rfl | rfl
    · refine W_sub_list P2.il (by decide) (by decide) rfl ?_ rfl
      exact c0 t1 _ _ _ _ _ _ (L2.mono (by omega)) g lt1 ((TT1.sub fun q h => .tail _ (.tail _ (.tail _ h))).grow g2 (L.nin lt1)) (.flat .none)
    · refine W_sub_list P2.il (by decide) (by decide) rfl ?_ rfl
      exact c0 t2 _ _ _ _ _ _ (L2.mono (by omega)) g m2 ((TT2.sub fun q h => .tail _ (.tail _ h)).grow g2 (L.nin m2)) (.flat (.bool (b := true)))
    · refine W_sub_list P2.il (by decide) (by decide) rfl ?_ rfl
      exact c0 t3 _ _ _ _ _ _ (L2.mono (by omega)) g m3 ((TT3.sub fun q h => .tail _ h).grow g2 (L.nin m3)) (.flat (.bool (b := false)))
  · repeat' wtm_at "Q"
    refine W_call (take_law (d := 0) (hv.less (by omega)) L (by omega) (by decide) (by decide) fun r tr G1 L1 g1 r0 r1 => ?_)
    have oi := small_okI (r - 50) (by omega) (by omega)
    repeat' wtm_at "Q"
    refine W_str_int (okI_parts oi).1 fun _ => ?_
    repeat' wtm_at "W"
    exact c _ _ _ _ _ _ _ _ (L1.mono (by omega)) g1 (by assumption) (by assumption) (.flat (okI_flt oi))
  · repeat' wtm_at "Q"
    rename_i x ta ltA PA tt
    refine W_call (take_law (d := 0) (hv.less (by omega)) (L.sub Sub.cons) (by omega) (by decide) (by decide) fun r tr G2 L2 g2 r0 r1 => ?_)
    obtain ⟨y, ty, P2, h1, h2⟩ := (PA.grow g2 (L.nin ltA)).pick (xs := nameL) (.cons (.cons (.cons (.cons (.cons .nil))))) (i := r.toNat) (by show r.toNat < 5; omega)
    refine W_sub_list P2.il r0 (by omega) h1 ?_ rfl
    obtain ⟨hy1, hy2, hy3⟩ := name_facts y (List.mem_of_getElem? h2)
    have ql := quoted_len y
    repeat' wtm_at "W"
    cases hs : hasSp y with
    | true =>
      rw [hs, if_pos rfl] at hy3
      refine itF (by unfold hasSp at hs; simpa using hs) ?_
      repeat' wtm_at "W"
      refine W_call (quoted_spec (d := 0) hw (hv.less (by omega)) (by omega) fun _ => ?_)
      repeat' wtm_at "W"
      refine W_adds (by rw [sizeLine_eq]; show 1 + _ ≤ _; omega) fun _ => ?_
      repeat' wtm_at "W"
      exact c _ _ _ _ _ _ _ _ (L2.mono (by omega)) ((Grow.ofSub Sub.cons).trans g2) (by assumption) (by assumption) (.flat (by rw [hy3]; exact .sym hy1 hy2))
    | false =>
      rw [hs, if_neg Bool.false_ne_true] at hy3
      refine itT (by unfold hasSp at hs; simpa using hs) ?_
      repeat' wtm_at "W"
      refine W_adds (by rw [sizeLine_eq]; show 1 + _ ≤ _; omega) fun _ => ?_
      repeat' wtm_at "W"
      exact c _ _ _ _ _ _ _ _ (L2.mono (by omega)) ((Grow.ofSub Sub.cons).trans g2) (by assumption) (by assumption) (.flat (by rw [hy3]; exact .sym hy1 hy2))
  · repeat' wtm_at "Q"
    refine W_call (word_law (d := 0) (hv.less (by omega)) L (by omega) fun x tx G3 hx L3 g3 => ?_)
    obtain ⟨hx1, hx2, hx3⟩ := word_facts x hx
    repeat' wtm_at "W"
    refine W_world hv L3 (f := 578) (by kernel_rfl) (by decide) ?_
    repeat' wtm_at "W"
    refine W_call (text_law hw (hv.less (by omega)) L3 fun a G5 Z5 L5 g5 I5 => ?_)
    repeat' wtm_at "W"
    refine W_call (quoted_spec (d := 0) hw (hv.less (by omega)) (by omega) fun _ => ?_)
    repeat' wtm_at "W"
    exact c _ _ _ _ _ _ _ _ (L5.mono (by omega)) (g3.trans g5) (by assumption) (by assumption) (by rw [hx3]; exact .text (I5.weak (reqB_cons (by wtm_at "L") reqB_nil)) hx1 hx2)
  · repeat' wtm_at "Q"
    refine W_AssignSwap ?_
    repeat' wtm_at "W"
    refine W_call (take_law (d := 0) (hv.less (by omega)) L (by omega) (by decide) (by decide) fun r tr G1 L1 g1 r0 r1 => ?_)
    repeat' wtm_at "W"
    refine W_call (take_law (d := 0) (hv.less (by omega)) L1 (by omega) (by decide) (by decide) fun r2 tr2 G2 L2 g2 r20 r21 => ?_)
    repeat' wtm_at "W"
    refine W_call (take_law (d := 0) (hv.less (by omega)) L2 (by omega) (by decide) (by decide) fun r3 tr3 G3 L3 g3 r30 r31 => ?_)
    repeat' wtm_at "W"
    rename_i t4 o4 lt4 TT4
    refine W_unpackItems hv TT4 rfl ?_
    refine W_order_cons (W_bindName (W_store hv ?_ (by kernel_rfl)))
    refine W_order_cons (W_bindName (W_store hv ?_ (by kernel_rfl)))
    refine W_order_cons (W_bindName (W_store hv ?_ (by kernel_rfl)))
    refine W_order_nil ?_
    have L4 := L3.sub (Sub.cons (p := (t4, o4)))
    generalize (r2 == 1) = io
    generalize (r3 == 0) = en
    refine W_AssignSwap ?_
    repeat' wtm_at "W"
    refine itCut (fun a => ∃ t, a = if en then Value.none else .int (r + 2) t) (fun e => ?_) (fun e => ?_) ?_
    · cases e
      repeat' wtm_at "W"
      exact ⟨rfl, Sub.rfl, 0, rfl⟩
    · cases e
      repeat' wtm_at "W"
      exact ⟨rfl, Sub.rfl, _, rfl⟩
    rintro _ ⟨tu, rfl⟩
    repeat' wtm_at "W"
    refine itCut (fun a => ∃ t, a = .str (if io then ("..." : Str) else "..") t) (fun e => ?_) (fun e => ?_) ?_
    · cases e
      repeat' wtm_at "W"
      exact ⟨rfl, Sub.rfl, _, rfl⟩
    · cases e
      repeat' wtm_at "W"
      exact ⟨rfl, Sub.rfl, _, rfl⟩
    rintro _ ⟨tz, rfl⟩
    repeat' wtm_at "W"
    rename_i t5 o5 lt5 TT5
    refine W_unpackItems hv TT5 rfl ?_
    refine W_order_cons (W_bindName (W_store hv ?_ (by kernel_rfl)))
    refine W_order_cons (W_bindName (W_store hv ?_ (by kernel_rfl)))
    refine W_order_nil ?_
    have L5 := L4.sub (Sub.cons (p := (t5, o5)))
    repeat' wtm_at "W"
    refine W_world hv L5 (f := 606) (by kernel_rfl) (by decide) ?_
    repeat' wtm_at "W"
    obtain ⟨_, _, T5⟩ := L5.T
    refine W_call (range_of_spec (t2 := tu) hw (hv.less (by omega)) T5 (by cases en; exact .inr ⟨_, rfl⟩; exact .inl rfl) fun a G6 Z6 n6 ms6 T6 g6 le6 e6 I6 => ?_)
    obtain ⟨L6, g6⟩ := L5.grow T6 g6
    have o1 := small_okI r (by omega) (by omega)
    have o2 := small_okI (r + 2) (by omega) (by omega)
    have b1 := (okI_parts o1).2
    have b2 := (okI_parts o2).2
    repeat' wtm_at "W"
    refine W_str_int (okI_parts o1).1 fun _ => ?_
    repeat' wtm_at "W"
    have bz : (if io then ("..." : Str) else "..").length ≤ 3 := by cases io <;> decide
    refine W_adds (by rw [sizeLine_eq]; show (iS r).length + _ ≤ _; omega) fun _ => ?_
    repeat' wtm_at "W"
    refine itCut (fun a => ∃ t, a = .str (if en then "" else iS (r + 2)) t) (fun e => ?_) (fun e => ?_) ?_
    · cases e
      repeat' wtm_at "W"
      exact ⟨rfl, Sub.rfl, _, rfl⟩
    · cases e
      repeat' wtm_at "W"
      refine W_str_int (okI_parts o2).1 fun _ => ?_
      exact ⟨rfl, Sub.rfl, _, rfl⟩
    rintro _ ⟨ty, rfl⟩
    have by' : (if en then ("" : Str) else iS (r + 2)).length ≤ 30 := by cases en; exact b2; exact (by decide : 0 ≤ 30)
    refine W_adds (by rw [sizeLine_eq, str_append_len]; show (iS r).length + _ + _ ≤ _; omega) fun _ => ?_
    repeat' wtm_at "W"
    exact c _ _ _ _ (rangeShow r io (if en then "" else iS (r + 2))) _ _ _ (L6.mono (by omega)) ((g1.trans (g2.trans g3)).trans ((Grow.ofSub (Sub.cons.trans Sub.cons)).trans g6)) (by assumption) (by assumption) (.range I6 o1 (by cases en; exact .inr ⟨_, _, rfl, rfl, o2⟩; exact .inl ⟨rfl, rfl⟩))
  · repeat' wtm_at "Q"
    refine W_AssignTup ?_
    repeat' wtm_at "W"
    refine W_call (error_spec hw (hv.less (by omega)) L (by omega) fun t tn ts e name m said G2 Z2 L2 g2 lt2 TT2 E2 hm le1 le2 ne => ?_)
    refine W_asgTupE hv TT2 ?_ (by rfl) (by rfl)
    refine W_order_cons (W_asgName (W_store hv ?_ (by kernel_rfl)))
    refine W_order_cons (W_asgName (W_store hv ?_ (by kernel_rfl)))
    refine W_order_cons (W_asgName (W_store hv ?_ (by kernel_rfl)))
    refine W_order_nil ?_
    repeat' wtm_at "W"
    have es : errShow name m = if said == "" then name else "#<" ++ name ++ ": " ++ said ++ ">" := by
      rcases hm with ⟨rfl, rfl⟩ | rfl
      · rw [ne]; rfl
      · rfl
    cases hs : (said == ("" : Str)) with
    | true =>
      rw [hs, if_pos rfl] at es
      repeat' wtm_at "Q"
      exact c _ _ _ _ _ _ _ _ (L2.mono (by omega)) g2 (by assumption) (by assumption) (by rw [← es]; exact Leaf.err E2)
    | false =>
      rw [hs, if_neg Bool.false_ne_true] at es
      with_reducible refine itF (by with_unfolding_all rfl) ?_
      repeat' wtm_at "W"
      refine W_adds (by rw [sizeLine_eq]; show 2 + _ ≤ _; omega) fun _ => ?_
      repeat' wtm_at "W"
      refine W_adds (by rw [sizeLine_eq, str_append_len]; show 2 + _ + 2 ≤ _; omega) fun _ => ?_
      repeat' wtm_at "W"
      refine W_adds (by rw [sizeLine_eq, str_append_len, str_append_len]; show 2 + _ + 2 + _ ≤ _; omega) fun _ => ?_
      repeat' wtm_at "W"
      refine W_adds (by rw [sizeLine_eq, str_append_len, str_append_len, str_append_len]; show 2 + _ + 2 + _ + 1 ≤ _; omega) fun _ => ?_
      repeat' wtm_at "W"
      exact c _ _ _ _ _ _ _ _ (L2.mono (by omega)) g2 (by assumption) (by assumption) (by rw [← es]; exact Leaf.err E2)
  · repeat' wtm_at "Q"
    refine W_world hv L (f := 516) (by kernel_rfl) (by decide) ?_
    repeat' wtm_at "W"
    refine W_call (builtin_law (@bTop _ "Array" (by decide) (by decide)) (by decide) (by decide) hw (hv.less (by omega)) L fun a1 G2 Z2 L2 g2 M2 => ?_)
    repeat' wtm_at "W"
    exact c _ _ _ _ _ _ _ _ (L2.mono (by omega)) g2 (by assumption) (by assumption) (.mod M2)
end
def TN : Nat → Int
  | 0 => 10
  | n + 1 => 12 + 3 * (TN n + 5)
def ValOk (n D : Nat) : Prop := ∀ {v : V} {nm : Str} {sc : Scope} {l : Locs} {G Z : Led} {k : Value → Locs → Led → Prop} {w : World} {p : WP} {b : Addr} {tk : Int} {ob : Addr} {no : Int} {cm : Int} {td : Tok}, v.w = w → Ok v nm sc D → LG w p b tk ob no cm G Z → cm + TN n ≤ 600000 →
  (∀ t ts u s G' Z', LG w p b tk ob no (cm + TN n) G' Z' → Grow (SL p b) G Z G' Z' → (∀ q ∈ G, q.1 < t) → TL G' t [u, .str s ts] → Rep Z' n u s → k (.ref t) l G') → C v (.call (.ref 758) ⟨[.ref b, .ref p.wd, .int (n : Int) td], []⟩) l G k
section
variable {v : V} {l : Locs} {G Z : Led} {nm : Str} {sc : Scope} {d : Nat} {k : Value → Locs → Led → Prop} {pos : Pos} {env : Env} {w : World} {p : WP} {b : Addr} {tk : Int} {ob : Addr} {no : Int} {cm : Int}
/-- the first two statements: the budget, the way -/
theorem val_head {L0 : Locs} {n : Nat} {td : Tok} {kf : Flow → Locs → Led → Prop} (hw : v.w = w) (hv : Ok v "_law_value" (fscope (topS 52)) 23) (L : LG w p b tk ob no cm G Z) (hc : cm ≤ 700000)
    (l1 : L0.lookup ("box" : Str) = some (.ref b)) (l2 : L0.lookup ("world" : Str) = some (.ref p.wd)) (l3 : L0.lookup ("deep" : Str) = some (.int n td))
    (c : ∀ r tr G', LG w p b tk ob no (cm + 1) G' Z → Grow (SL p b) G Z G' Z → (r = 0 ∨ r = 1 ∨ r = 2 ∨ r = 3 ∨ r = 4 ∨ r = 5 ∨ r = 6) ∨ (0 < n ∧ (r = 7 ∨ r = 8)) → W v (execs (List.drop 2 (fbody (topS 52))) (v.env "_law_value" (fscope (topS 52)))) (("way", .int r tr) :: L0) G' kf) :
    W v (execs (fbody (topS 52)) (v.env "_law_value" (fscope (topS 52)))) L0 G kf := by
  obtain ⟨g, sd, ct, bd, t1, t2, t3, t4, P, s1, s2, s3, s4⟩ := L.B
  refine W_AssignSub ?_ (hs := by kernel_rfl)
  repeat' wtm_at "W"
  refine W_sub_list P (by decide) (by decide) rfl ?_ rfl
  repeat' wtm_at "W"
  refine W_setList P (by decide) (by show (3:Int) < 4; decide) (by decide) rfl fun G1 b1 P1 => ?_
  obtain ⟨L1, g1⟩ := L.turn (cm' := cm) b1 ⟨g, sd, ct, _, t1, t2, t3, _, P1, s1, s2, s3, s4⟩
  repeat' wtm_at "W"
  have six : ∀ r : Int, 0 ≤ r → r < 6 → (r = 0 ∨ r = 1 ∨ r = 2 ∨ r = 3 ∨ r = 4 ∨ r = 5 ∨ r = 6) ∨ (0 < n ∧ (r = 7 ∨ r = 8)) := by omega
  cases hd : decide ((n : Int) > 0) with
  | false =>
    repeat' (first | ((with_reducible show W _ (call _ _) _ _ _); exact W_call (take_law (d := 0) (hv.less (by omega)) L1 (by omega) (by decide) (by decide) fun r tr G2 L2 g2 r0 r1 => W_store hv (c _ _ _ L2 (g1.trans g2) (six r r0 r1)) (by kernel_rfl))) | wtm_at "W")
  | true =>
    have hn : (n : Int) > 0 := of_decide_eq_true hd
    with_reducible refine itT (by with_unfolding_all rfl) ?_
    repeat' wtm_at "W"
    refine W_sub_list P1 (by decide) (by decide) rfl ?_ rfl
    repeat' wtm_at "W"
    cases hq : decide (bd - 1 > 0) with
    | false =>
      repeat' (first | ((with_reducible show W _ (call _ _) _ _ _); exact W_call (take_law (d := 0) (hv.less (by omega)) L1 (by omega) (by decide) (by decide) fun r tr G2 L2 g2 r0 r1 => W_store hv (c _ _ _ L2 (g1.trans g2) (six r r0 r1)) (by kernel_rfl))) | wtm_at "W")
    | true =>
      repeat' (first | ((with_reducible show W _ (call _ _) _ _ _); exact W_call (take_law (d := 0) (hv.less (by omega)) L1 (by omega) (by decide) (by decide) fun r tr G2 L2 g2 r0 r1 => W_store hv (c _ _ _ L2 (g1.trans g2) (by omega)) (by kernel_rfl))) | wtm_at "W")
end
section
variable {v : V} {l : Locs} {G Z : Led} {nm : Str} {sc : Scope} {d : Nat} {k : Value → Locs → Led → Prop} {pos : Pos} {env : Env} {w : World} {p : WP} {b : Addr} {tk : Int} {ob : Addr} {no : Int} {cm : Int}
theorem TN_pos : ∀ n, 10 ≤ TN n
  | 0 => Int.le_refl _
  | n + 1 => by have := TN_pos n; show 10 ≤ 12 + 3 * (TN n + 5); omega
theorem val0 : ValOk 0 24 := by
  intro v nm sc l G Z k w p b tk ob no cm td hw hv L hc c
  have hc' : cm + 10 ≤ 600000 := hc
  refine C_fnP hv (kf_758 _) (by kernel_rfl) [("deep", .int (0 : Nat) td), ("world", .ref p.wd), ("box", .ref b)] (fun S => by kernel_rfl) (by kernel_rfl) fun v' hv' hw' => ?_
  have hw2 := hw'.trans hw
  refine val_head (n := 0) hw2 hv' L (by omega) (by wtm_at "L") (by wtm_at "L") (by wtm_at "L") fun r tr G1 L1 g1 hr => ?_
  rcases hr with hr | ⟨h, _⟩
  · exact val_leaf hw2 hv' L1 (by omega) hr (by wtm_at "L") (by wtm_at "L") (by wtm_at "L") fun t ts u s l' G' Z' L' g' lt TT R => ⟨_, Sub.rfl, c t ts u s G' Z' (L'.mono (by show _ ≤ cm + 10; omega)) (g1.trans g') (g1.lt lt) TT R⟩
  · exact absurd h (by decide)
/-- the state of the loop that fills a list or a table -/
structure VB (w : World) (p : WP) (b : Addr) (tk : Int) (ob : Addr) (no : Int) (n : Nat) (R : Led → List Value → List Str → Prop) (way : Int) (dv : Value) (G0 Z0 : Led) (A B I : Addr) (cm : Int) (i : Nat) (l : Locs) (G Z : Led) (us : List Value) (ss : List Str) : Prop where
  lb : l.lookup ("box" : Str) = some (.ref b)
  lw : l.lookup ("world" : Str) = some (.ref p.wd)
  ld : l.lookup ("deep" : Str) = some dv
  ly : ∃ t, l.lookup ("way" : Str) = some (.int way t)
  lp : l.lookup ("pairs" : Str) = some (.ref A)
  ls : l.lookup ("shown1" : Str) = some (.ref B)
  L : LG w p b tk ob no cm G Z
  g : Grow (SL p b) G0 Z0 G Z
  PA : PL G A us
  PB : ∃ vs, PL G B vs ∧ StrsV vs ss
  zz : ∀ q ∈ Z, q.1 ≠ A ∧ q.1 ≠ B ∧ q.1 ≠ I
  R : R Z us ss
  len : us.length = ss.length ∧ ss.length ≤ i ∧ ∀ s ∈ ss, s.length ≤ 100000
section
variable {n : Nat} {R : Led → List Value → List Str → Prop} {way : Int} {dv : Value} {G0 Z0 : Led} {A B I : Addr} {i : Nat} {us : List Value} {ss : List Str} {cm0 : Int}
theorem nin_but {G G' : Led} {a : Addr} {x : Addr} {o : Obj} (h : (x, o) ∈ G) (b : But a G G') (ne : x ≠ a) : (x, o) ∈ G' := b _ h ne
/-- the world turned, the two lists did not -/
theorem VB.move {l' : Locs} {G' Z' : Led} {cm' : Int} (V : VB w p b tk ob no n R way dv G0 Z0 A B I cm i l G Z us ss) (L0 : LG w p b tk ob no cm0 G0 Z0) (lA : ∀ q ∈ G0, q.1 < A) (lB : ∀ q ∈ G0, q.1 < B) (hI : ∃ o, (I, o) ∈ G) (mono : ∀ {Z Z' : Led}, Sub Z Z' → ∀ {us ss}, R Z us ss → R Z' us ss)
    (L' : LG w p b tk ob no cm' G' Z') (g' : Grow (SL p b) G Z G' Z') (hl : ∀ x : Str, x ∈ (["box", "world", "deep", "way", "pairs", "shown1"] : List Str) → l'.lookup x = l.lookup x) : VB w p b tk ob no n R way dv G0 Z0 A B I cm' i l' G' Z' us ss := by
  obtain ⟨oI, hI⟩ := hI
  obtain ⟨nA, mA⟩ := V.PA
  obtain ⟨vs, ⟨nB, mB⟩, SV⟩ := V.PB
  refine ⟨(hl _ (by decide)).trans V.lb, (hl _ (by decide)).trans V.lw, (hl _ (by decide)).trans V.ld, let ⟨t, h⟩ := V.ly; ⟨t, (hl _ (by decide)).trans h⟩, (hl _ (by decide)).trans V.lp, (hl _ (by decide)).trans V.ls, L', V.g.trans g', ⟨nA, g'.but _ mA (L0.nin lA)⟩, ⟨vs, ⟨nB, g'.but _ mB (L0.nin lB)⟩, SV⟩, fun q hq => ?_, mono g'.zz V.R, V.len⟩
  rcases g'.new q hq with h | h
  · exact V.zz q h
  · exact ⟨Nat.ne_of_gt (h _ mA), Nat.ne_of_gt (h _ mB), Nat.ne_of_gt (h _ hI)⟩
/-- one of the fresh objects turned -/
theorem VB.fresh {G' : Led} {a : Addr} (V : VB w p b tk ob no n R way dv G0 Z0 A B I cm i l G Z us ss) (L0 : LG w p b tk ob no cm0 G0 Z0) (la : ∀ q ∈ G0, q.1 < a) (bt : But a G G') (hz : ∀ q ∈ Z, q.1 ≠ a) {us' : List Value} {ss' : List Str} {j : Nat} (PA : PL G' A us') (PB : ∃ vs, PL G' B vs ∧ StrsV vs ss') (hR : R Z us' ss') (len : us'.length = ss'.length ∧ ss'.length ≤ j ∧ ∀ s ∈ ss', s.length ≤ 100000) : VB w p b tk ob no n R way dv G0 Z0 A B I cm j l G' Z us' ss' :=
  ⟨V.lb, V.lw, V.ld, V.ly, V.lp, V.ls, L0.fresh la V.L bt hz, V.g.fresh bt la, PA, PB, V.zz, hR, len⟩
theorem VB.but {G' : Led} (V : VB w p b tk ob no n R way dv G0 Z0 A B I cm i l G Z us ss) (L0 : LG w p b tk ob no cm0 G0 Z0) (lI : ∀ q ∈ G0, q.1 < I) (hA : A ≠ I) (hB : B ≠ I) (bt : But I G G') : VB w p b tk ob no n R way dv G0 Z0 A B I cm i l G' Z us ss :=
  V.fresh L0 lI bt (fun q hq => (V.zz q hq).2.2) (V.PA.but bt hA) (let ⟨vs, P, S⟩ := V.PB; ⟨vs, P.but bt hB, S⟩) V.R V.len
/-- both lists grow by one -/
theorem VB.push {G1 G2 : Led} {u : Value} {s : Str} {t : Tok} {vs : List Value} (V : VB w p b tk ob no n R way dv G0 Z0 A B I cm i l G Z us ss) (L0 : LG w p b tk ob no cm0 G0 Z0) (lA : ∀ q ∈ G0, q.1 < A) (lB : ∀ q ∈ G0, q.1 < B) (hAB : A ≠ B) (SV : StrsV vs ss)
    (b1 : But A G G1) (P1 : PL G1 A (us ++ [u])) (b2 : But B G1 G2) (P2 : PL G2 B (vs ++ [.str s t])) (PB1 : PL G1 B vs) (hR : R Z us ss → R Z (us ++ [u]) (ss ++ [s])) (hs : s.length ≤ 100000) : VB w p b tk ob no n R way dv G0 Z0 A B I cm (i + 1) l G2 Z (us ++ [u]) (ss ++ [s]) := by
  obtain ⟨e1, e2, e3⟩ := V.len
  have len : (us ++ [u]).length = (ss ++ [s]).length ∧ (ss ++ [s]).length ≤ i + 1 ∧ ∀ x ∈ ss ++ [s], x.length ≤ 100000 := by
    refine ⟨by simp [e1], by simp; omega, fun x hx => ?_⟩
    rcases List.mem_append.mp hx with h | h
    · exact e3 x h
    · have : x = s := by simpa using h
      rw [this]; exact hs
  exact ⟨V.lb, V.lw, V.ld, V.ly, V.lp, V.ls, L0.fresh lB (L0.fresh lA V.L b1 fun q hq => (V.zz q hq).1) b2 fun q hq => (V.zz q hq).2.1, (V.g.fresh b1 lA).fresh b2 lB, P1.but b2 hAB, ⟨_, P2, SV.snoc⟩, V.zz, hR V.R, len⟩
end
end
/-- the pairs that are to make a table -/
inductive VP (Z : Led) (n : Nat) : List Value → List TKey → List Str → Prop
  | nil : VP Z n [] [] []
  | cons {t key val code ahead told tm ts cs ss} : TL Z t [key, val, .str (markOf code) tm] → KeyS Z key code ahead → Rep Z n val told → VP Z n ts cs ss → VP Z n (.ref t :: ts) (code :: cs) ((ahead ++ told) :: ss)
theorem VP.sub {Z Z' : Led} {n : Nat} (b : Sub Z Z') {ts : List Value} {cs : List TKey} {ss : List Str} (h : VP Z n ts cs ss) : VP Z' n ts cs ss := by
  induction h with
  | nil => exact .nil
  | cons h1 h2 h3 _ ih => exact .cons (h1.sub b) (h2.sub b) (h3.sub b) ih
theorem VP.snoc {Z : Led} {n : Nat} {t : Addr} {key val : Value} {code : TKey} {ahead told : Str} {tm : Tok} (h1 : TL Z t [key, val, .str (markOf code) tm]) (h2 : KeyS Z key code ahead) (h3 : Rep Z n val told) {ts : List Value} {cs : List TKey} {ss : List Str} (h : VP Z n ts cs ss) : VP Z n (ts ++ [.ref t]) (cs ++ [code]) (ss ++ [ahead ++ told]) := by
  induction h with
  | nil => exact .cons h1 h2 h3 .nil
  | cons a1 a2 a3 _ ih => exact .cons a1 a2 a3 ih
theorem VP.get {Z : Led} {n : Nat} {ts : List Value} {cs : List TKey} {ss : List Str} {i : Nat} {u : Value} (h : VP Z n ts cs ss) : ts[i]? = some u → ∃ t key val code ahead told tm, u = .ref t ∧ TL Z t [key, val, .str (markOf code) tm] ∧ KeyS Z key code ahead ∧ Rep Z n val told ∧ cs[i]? = some code ∧ ss[i]? = some (ahead ++ told) := by
  induction h generalizing i with
  | nil => exact fun e => by simp at e
  | cons h1 h2 h3 _ ih =>
    intro e
    cases i with
    | zero =>
      cases e
      exact ⟨_, _, _, _, _, _, _, rfl, h1, h2, h3, rfl, rfl⟩
    | succ i => exact ih e
theorem VP.len {Z : Led} {n : Nat} {ts : List Value} {cs : List TKey} {ss : List Str} (h : VP Z n ts cs ss) : cs.length = ts.length := by
  induction h with
  | nil => rfl
  | cons _ _ _ _ ih => exact congrArg (· + 1) ih
theorem StrsV.length {vs : List Value} {xs : List Str} (h : StrsV vs xs) : vs.length = xs.length := by
  induction h with
  | nil => rfl
  | cons _ ih => exact congrArg (· + 1) ih
theorem KeyS.key {G : Led} {u : Value} {c : TKey} {s : Str} (h : KeyS G u c s) : KeyR G u s := by
  cases h with
  | sym h1 h2 => exact .sym h1 h2
  | int h => exact .int h
  | text h1 h2 h3 => exact .text (h1.weak (reqB_cons (by wtm_at "L") reqB_nil)) h2 h3
/-- the new pairs, before they are still -/
inductive PT (Ga Z' : Led) (n : Nat) (Zc : Led) : List Value → List TKey → List Str → Prop
  | nil : PT Ga Z' n Zc [] [] []
  | cons {t o key val code ahead told ts cs ss} : (t, o) ∈ Zc → (∀ q ∈ Ga, q.1 < t) → TL [(t, o)] t [key, val] → KeyS Z' key code ahead → Rep Z' n val told → PT Ga Z' n Zc ts cs ss → PT Ga Z' n Zc (.ref t :: ts) (code :: cs) ((ahead ++ told) :: ss)
theorem PT.sub {Ga Z' Zc Zd : Led} {n : Nat} (b : Sub Zc Zd) {ts : List Value} {cs : List TKey} {ss : List Str} (h : PT Ga Z' n Zc ts cs ss) : PT Ga Z' n Zd ts cs ss := by
  induction h with
  | nil => exact .nil
  | cons h1 h2 h3 h4 h5 _ ih => exact .cons (b _ h1) h2 h3 h4 h5 ih
theorem PT.snoc {Ga Z' Zc : Led} {n : Nat} {t : Addr} {o : Obj} {key val : Value} {code : TKey} {ahead told : Str} (h1 : (t, o) ∈ Zc) (h2 : ∀ q ∈ Ga, q.1 < t) (h3 : TL [(t, o)] t [key, val]) (h4 : KeyS Z' key code ahead) (h5 : Rep Z' n val told) {ts : List Value} {cs : List TKey} {ss : List Str} (h : PT Ga Z' n Zc ts cs ss) : PT Ga Z' n Zc (ts ++ [.ref t]) (cs ++ [code]) (ss ++ [ahead ++ told]) := by
  induction h with
  | nil => exact .cons h1 h2 h3 h4 h5 .nil
  | cons a1 a2 a3 a4 a5 _ ih => exact .cons a1 a2 a3 a4 a5 ih
theorem PS.sub {Z Z' : Led} {n : Nat} (b : Sub Z Z') {ts : List Value} {cs : List TKey} {ss : List Str} (h : PS Z n ts cs ss) : PS Z' n ts cs ss := by
  induction h with
  | nil => exact .nil
  | cons h1 h2 h3 _ ih => exact .cons (h1.sub b) (h2.sub b) (h3.sub b) ih
theorem PT.freeze {S : List Addr} {Ga Z' G5 : Led} {n : Nat} {ts : List Value} {cs : List TKey} {ss : List Str} {Zx : Led} (h : PT Ga Z' n G5 ts cs ss) : Grow S Ga Z' G5 Zx → Sub Zx G5 → ∃ Z'', Grow S Ga Z' G5 Z'' ∧ Sub Z'' G5 ∧ Sub Zx Z'' ∧ PS Z'' n ts cs ss := by
  induction h generalizing Zx with
  | nil => exact fun g zg => ⟨Zx, g, zg, Sub.rfl, .nil⟩
  | cons h1 h2 h3 h4 h5 _ ih =>
    intro g zg
    obtain ⟨g1, zg1⟩ := g.freeze1 zg h1 h2
    obtain ⟨Z'', g2, zg2, zz2, P⟩ := ih g1 zg1
    exact ⟨Z'', g2, zg2, Sub.cons.trans zz2, .cons (h3.sub fun q hq => zz2 _ (by rcases List.mem_cons.mp hq with rfl | h; exact .head _; cases h)) (h4.sub g2.zz) (h5.sub g2.zz) P⟩
def RW (n : Nat) (way : Int) (Z : Led) (us : List Value) (ss : List Str) : Prop := (way = 7 ∧ Two (Rep Z n) us ss) ∨ (way = 8 ∧ ∃ cs, VP Z n us cs ss ∧ cs.Nodup ∧ ∀ c ∈ cs, c ∈ keyCodes)
theorem RW.sub {n : Nat} {way : Int} {Z Z' : Led} (b : Sub Z Z') {us : List Value} {ss : List Str} (h : RW n way Z us ss) : RW n way Z' us ss :=
  h.imp (fun h => ⟨h.1, h.2.imp fun _ _ h => h.sub b⟩) fun h => ⟨h.1, h.2.elim fun cs t => ⟨cs, t.1.sub b, t.2⟩⟩
section
variable {v : V} {l : Locs} {G Z : Led} {nm : Str} {sc : Scope} {d : Nat} {k : Value → Locs → Led → Prop} {pos : Pos} {env : Env} {w : World} {p : WP} {b : Addr} {tk : Int} {ob : Addr} {no : Int} {cm : Int}
/-- the ways 7 and 8: a list or a table is filled -/
theorem val_down {n D : Nat} (S : ValOk n D) (hD : 23 ≤ D) (hB : BB n ≤ 50000) {r : Int} {tr td : Tok} {L0 : Locs} {kf : Flow → Locs → Led → Prop} (hw : v.w = w) (hv : Ok v "_law_value" (fscope (topS 52)) D) (L : LG w p b tk ob no cm G Z) (hc : cm + 3 * (TN n + 5) ≤ 600000) (hr : r = 7 ∨ r = 8)
    (l1 : L0.lookup ("box" : Str) = some (.ref b)) (l2 : L0.lookup ("world" : Str) = some (.ref p.wd)) (l3 : L0.lookup ("way" : Str) = some (.int r tr)) (l4 : L0.lookup ("deep" : Str) = some (.int (n + 1 : Nat) td))
    (c : ∀ t ts u s l' G' Z', LG w p b tk ob no (cm + (1 + 3 * (TN n + 5))) G' Z' → Grow (SL p b) G Z G' Z' → (∀ q ∈ G, q.1 < t) → TL G' t [u, .str s ts] → Rep Z' (n + 1) u s → kf (.ret (.ref t)) l' G') :
    W v (execs (List.drop 9 (fbody (topS 52))) (v.env "_law_value" (fscope (topS 52)))) L0 G kf := by
  have tp := TN_pos n
  refine W_AssignSwap ?_
  repeat' wtm_at "W"
  rename_i A oA ltA PA B oB ltB PB tt ott ltt TT
  refine W_unpackItems hv TT rfl ?_
  refine W_order_cons (W_bindName (W_store hv ?_ (by kernel_rfl)))
  refine W_order_cons (W_bindName (W_store hv ?_ (by kernel_rfl)))
  refine W_order_nil ?_
  have s1 : Sub G ((tt, ott) :: (B, oB) :: (A, oA) :: G) := fun q h => .tail _ (.tail _ (.tail _ h))
  have La := L.sub s1
  have lB : ∀ q ∈ G, q.1 < B := fun q h => ltB q (.tail _ h)
  refine W_For (nm := "_law_value") (sc := fscope (topS 52)) ?_ hv (fun _ => by rfl)
  repeat' wtm_at "W"
  refine W_call (take_law (d := 0) (hv.less (by omega)) La (by omega) (by decide) (by decide) fun m tm G1 L1 g1 m0 m1 => ?_)
  repeat' wtm_at "W"
  refine W_range1 fun rg og ltg RGg => ?_
  refine W_iter_range hv RGg (by omega) (by omega) fun I oI ltI TI => ?_
  have PA1 := PA.sub (fun q h => List.Mem.tail _ (List.Mem.tail _ h) : Sub _ ((tt, ott) :: (B, oB) :: (A, oA) :: G))
  have PB1 := PB.sub (Sub.cons : Sub _ ((tt, ott) :: (B, oB) :: (A, oA) :: G))
  have PA2 := PA1.grow g1 (L.nin ltA)
  have PB2 := PB1.grow g1 (L.nin lB)
  have s2 : Sub G1 ((I, oI) :: (rg, og) :: G1) := fun q h => .tail _ (.tail _ h)
  have ltI1 : ∀ q ∈ G1, q.1 < I := fun q h => ltI q (.tail _ h)
  have gx : Grow (SL p b) G Z ((I, oI) :: (rg, og) :: G1) Z := ((Grow.ofSub s1).trans g1).sub s2
  have lI : ∀ q ∈ G, q.1 < I := ((Grow.ofSub (S := SL p b) (Z := Z) s1).trans g1).lt ltI1
  have hAI : A ≠ I := let ⟨_, m⟩ := PA2; Nat.ne_of_lt (ltI1 _ m)
  have hBI : B ≠ I := let ⟨_, m⟩ := PB2; Nat.ne_of_lt (ltI1 _ m)
  have hAB : A ≠ B := Nat.ne_of_lt (ltB _ (.head _))
  refine ⟨I, [I], m.toNat, _, fun i l' G' => ∃ Z' us ss, VB w p b tk ob no n (RW n r) r (.int (n + 1 : Nat) td) G Z A B I (cm + 1 + i * (TN n + 5)) i l' G' Z' us ss, rfl, TI, ?_, ?_, ?_, ?_⟩
  · refine ⟨Z, [], [], ⟨by wtm_at "L", by wtm_at "L", by wtm_at "L", ⟨_, by wtm_at "L"⟩, by wtm_at "L", by wtm_at "L", (L1.sub s2).mono (by omega), gx, PA2.sub s2, ⟨[], PB2.sub s2, .nil⟩, fun q hq => ?_, ?_, rfl, Nat.le_refl _, fun _ h => nomatch h⟩⟩
    · have := L.zg q hq
      exact ⟨Nat.ne_of_lt (ltA q this), Nat.ne_of_lt (lB q this), Nat.ne_of_lt (lI q this)⟩
    · rcases hr with rfl | rfl
      · exact .inl ⟨rfl, trivial⟩
      · exact .inr ⟨rfl, [], .nil, List.nodup_nil, fun _ h => nomatch h⟩
  · rintro i l1 Ga Gb ⟨Z', us, ss, V⟩ bt
    exact ⟨Z', us, ss, V.but L lI hAI hBI bt⟩
  · rintro i a l' Ga hi ⟨ta, rfl⟩ ⟨Z', us, ss, V⟩ TI'
    have lb := V.lb
    have lw := V.lw
    have ld := V.ld
    have lp := V.lp
    have ls := V.ls
    obtain ⟨tw, ly⟩ := V.ly
    have hi3 : i < 3 := by omega
    have hI : ∃ o, (I, o) ∈ Ga := let ⟨_, _, _, h, _⟩ := TI'; h
    have nI := L.nin lI
    have bnd : cm + 1 + (i : Int) * (TN n + 5) ≤ cm + 1 + 2 * (TN n + 5) := by
      have : (i : Int) * (TN n + 5) ≤ 2 * (TN n + 5) := Int.mul_le_mul_of_nonneg_right (by omega) (by omega)
      omega
    have nxt : cm + 1 + (i : Int) * (TN n + 5) + (TN n + 5) = cm + 1 + ((i + 1 : Nat) : Int) * (TN n + 5) := by
      rw [show ((i + 1 : Nat) : Int) = (i : Int) + 1 by omega, Int.add_mul, Int.one_mul]; omega
    refine W_asgName (W_store hv ?_ (by kernel_rfl))
    refine W_AssignTup ?_
    repeat' wtm_at "W"
    rw [show ((n + 1 : Nat) : Int) - 1 = n by omega]
    refine W_call (S hw hv V.L (by omega) fun t ts u s G2 Z2 L2 g2 lt2 TT2 R2 => ?_)
    refine W_asgTupE hv TT2 ?_ (by rfl) (by rfl)
    refine W_order_cons (W_asgName (W_store hv ?_ (by kernel_rfl)))
    refine W_order_cons (W_asgName (W_store hv ?_ (by kernel_rfl)))
    refine W_order_nil ?_
    have V2 := V.move L ltA lB hI RW.sub L2 g2 (l' := ("told1", .str s ts) :: ("value", u) :: ("turn", .int i ta) :: l') fun x hx => by
      simp only [List.mem_cons, List.not_mem_nil, or_false] at hx
      rcases hx with rfl | rfl | rfl | rfl | rfl | rfl <;> kernel_rfl
    have TI2 := TI'.grow g2 nI fun x hx => by
      have : x = I := by simpa using hx
      rw [this]; exact nI
    refine W_If ?_
    repeat' wtm_at "W"
    obtain ⟨sb0, PB2, SV2⟩ := V2.PB
    have hs := R2.len
    obtain ⟨e1, e2, e3⟩ := V2.len
    rcases hr with rfl | rfl
    · with_reducible refine itT (by with_unfolding_all rfl) ?_
      repeat' wtm_at "W"
      refine W_m_append V2.PA ?_
      repeat' wtm_at "W"
      refine W_append V2.PA (by rw [sizeLine_eq]; omega) fun G3 b3 P3 => ?_
      repeat' wtm_at "W"
      have PB3 := PB2.but b3 hAB.symm
      refine W_m_append PB3 ?_
      repeat' wtm_at "W"
      refine W_append PB3 (by rw [sizeLine_eq, SV2.length]; omega) fun G4 b4 P4 => ?_
      repeat' wtm_at "W"
      have V3 := V2.push L ltA lB hAB SV2 b3 P3 b4 P4 PB3 (fun h => by
        rcases h with ⟨_, h⟩ | ⟨h, _⟩
        · exact .inl ⟨rfl, h.snoc R2⟩
        · exact absurd h (by decide)) (by omega)
      exact ⟨⟨Z2, _, _, { V3 with L := V3.L.mono (by omega) }⟩, (TI2.but b3 hAI.symm fun h => hAI (by simpa using h)).but b4 hBI.symm fun h => hBI (by simpa using h)⟩
    · with_reducible refine itF (by with_unfolding_all rfl) ?_
      repeat' wtm_at "W"
      refine W_AssignTup ?_
      repeat' wtm_at "W"
      refine W_call (key_spec hw (hv.less (by omega)) L2 (by omega) fun tk' tka tkm key ahead code G3 Z3 L3 g3 lt3 TT3 hk hcode => ?_)
      refine W_asgTupE hv TT3 ?_ (by rfl) (by rfl)
      refine W_order_cons (W_asgName (W_store hv ?_ (by kernel_rfl)))
      refine W_order_cons (W_asgName (W_store hv ?_ (by kernel_rfl)))
      refine W_order_cons (W_asgName (W_store hv ?_ (by kernel_rfl)))
      refine W_order_nil ?_
      have hI2 : ∃ o, (I, o) ∈ G2 := let ⟨_, _, _, h, _⟩ := TI2; h
      have V3 := V2.move L ltA lB hI2 RW.sub L3 g3 (l' := ("mark1", .str (markOf code) tkm) :: ("ahead1", .str ahead tka) :: ("key", key) :: ("told1", .str s ts) :: ("value", u) :: ("turn", .int i ta) :: l') fun x hx => by
        simp only [List.mem_cons, List.not_mem_nil, or_false] at hx
        rcases hx with rfl | rfl | rfl | rfl | rfl | rfl <;> kernel_rfl
      have TI3 := TI2.grow g3 nI fun x hx => by
        have : x = I := by simpa using hx
        rw [this]; exact nI
      have hI3 : ∃ o, (I, o) ∈ G3 := let ⟨_, _, _, h, _⟩ := TI3; h
      obtain ⟨cs, hvp, hnd, hcs⟩ : ∃ cs, VP Z3 n us cs ss ∧ cs.Nodup ∧ ∀ c ∈ cs, c ∈ keyCodes := by
        rcases V3.R with ⟨h, _⟩ | ⟨_, h⟩
        · exact absurd h (by decide)
        · exact h
      have R3 := R2.sub g3.zz
      refine W_If ?_
      repeat' wtm_at "W"
      refine W_ListComp (cl := []) hv (by rfl) (by kernel_rfl) ?_ (fun _ => rfl)
      repeat' wtm_at "W"
      refine W_iter_list hv V3.PA.il fun Iv oV ltV TV => ?_
      refine ⟨Iv, _, _, _, rfl, by rw [sizeLine_eq]; omega, TV, fun C D3 G4 s4 lt hfp dc NC PD => ?_⟩
      refine CompTurns.plain (Gb := G3) (fun i acc => StrsV acc ((cs.map markOf).take i)) ltV Sub.cons s4 lt hfp ⟨_, .head _⟩ dc rfl (by kernel_rfl) .nil ?_ ?_
      · rintro j acc lc a Gc sb hj hP J NC
        obtain ⟨t, key, val, code, ahead, told, tm, rfl, htl, _, _, hcj, _⟩ := hvp.get hP
        repeat' wtm_at "W"
        refine W_sub_tuple (htl.sub (V3.L.zg.trans sb)) (by decide) (by decide) rfl ?_ rfl
        refine ⟨rfl, Sub.rfl, ?_⟩
        rw [take_snoc (show (cs.map markOf)[j]? = some (markOf code) by rw [List.getElem?_map, hcj]; rfl)]
        exact J.snoc
      · intro acc hl J G5 s5 PD5
        rw [List.take_of_length_le (by rw [List.length_map, hvp.len]; exact Nat.le_refl _)] at J
        refine W_notin_list PD5.il J ?_
        repeat' wtm_at "W"
        cases hq : (cs.map markOf).any fun x => x == markOf code with
        | true =>
          with_reducible refine itT (by with_unfolding_all rfl) ?_
          repeat' wtm_at "W"
          have V4 := V3.move L ltA lB hI3 RW.sub (L3.sub s5) (Grow.ofSub s5) (fun x hx => rfl)
          exact ⟨⟨Z3, _, _, { V4 with L := V4.L.mono (by omega), len := ⟨e1, by omega, e3⟩ }⟩, TI3.sub s5⟩
        | false =>
          have hnew : code ∉ cs := fun h => by
            have := List.any_eq_false.mp hq (markOf code) (List.mem_map_of_mem h)
            simp at this
          with_reducible refine itF (by with_unfolding_all rfl) ?_
          refine W_Expr ?_ (hi := by kernel_rfl) (hs := by kernel_rfl)
          repeat' wtm_at "W"
          have PA5 := V3.PA.sub s5
          refine W_m_append PA5 ?_
          repeat' wtm_at "W"
          rename_i tp' op' ltp TTp
          have ltp3 : ∀ q ∈ G3, q.1 < tp' := fun q h => ltp q (s5 q h)
          obtain ⟨gz, zgz⟩ := (Grow.ofSub (S := SL p b) (Z := Z3) (s5.trans (Sub.cons (p := (tp', op'))))).freeze1 (V3.L.zg.trans (s5.trans Sub.cons)) (.head _) ltp3
          have L4 := (L3.sub (s5.trans (Sub.cons (p := (tp', op'))))).still (L3.st.grow gz zgz) Sub.cons
          have V4 := V3.move L ltA lB hI3 RW.sub L4 gz (fun x hx => rfl)
          have TZ : TL ((tp', op') :: Z3) tp' [key, u, .str (markOf code) tkm] := by
            obtain ⟨o', m, q⟩ := TTp
            rcases List.mem_cons.mp m with e | m
            · cases e; exact ⟨_, .head _, q⟩
            · exact absurd rfl (Nat.ne_of_lt (ltp _ m))
          obtain ⟨sb4, PB4, SV4⟩ := V4.PB
          refine W_append V4.PA (by rw [sizeLine_eq]; omega) fun G6 b6 P6 => ?_
          repeat' wtm_at "W"
          have PB6 := PB4.but b6 hAB.symm
          refine W_m_append PB6 ?_
          repeat' wtm_at "W"
          have hk2 := hk.key.len
          refine W_adds (by rw [sizeLine_eq]; omega) fun _ => ?_
          repeat' wtm_at "W"
          refine W_append PB6 (by rw [sizeLine_eq, SV4.length]; omega) fun G7 b7 P7 => ?_
          repeat' wtm_at "W"
          have V5 := V4.push L ltA lB hAB SV4 b6 P6 b7 P7 PB6 (fun _ => .inr ⟨rfl, cs ++ [code], (hvp.sub Sub.cons).snoc TZ (hk.sub Sub.cons) (R3.sub Sub.cons), List.nodup_append.mpr ⟨hnd, by simp, fun a ha b hb => by
              have : b = code := by simpa using hb
              rw [this]; exact fun e => hnew (e ▸ ha)⟩, fun c hc => by
              rcases List.mem_append.mp hc with h | h
              · exact hcs c h
              · have : c = code := by simpa using h
                rw [this]; exact hcode⟩) (by rw [str_append_len]; omega)
          exact ⟨⟨_, _, _, { V5 with L := V5.L.mono (by omega) }⟩, ((TI3.sub (s5.trans Sub.cons)).but b6 hAI.symm fun h => hAI (by simpa using h)).but b7 hBI.symm fun h => hBI (by simpa using h)⟩
  · rintro l' Ga ⟨Z', us, ss, V⟩
    have lb := V.lb
    have lw := V.lw
    have lp := V.lp
    have ls := V.ls
    obtain ⟨tw, ly⟩ := V.ly
    obtain ⟨sb0, PB2, SV2⟩ := V.PB
    obtain ⟨e1, e2, b1⟩ := V.len
    have hm3 : m.toNat ≤ 3 := by omega
    have l3 : ss.length ≤ 3 := by omega
    have b2 := sum_le _ ss b1
    have b4 := join3_len (g := ", ") rfl b1 l3
    have bnd : cm + 1 + (m.toNat : Int) * (TN n + 5) ≤ cm + (1 + 3 * (TN n + 5)) := by
      have : (m.toNat : Int) * (TN n + 5) ≤ 3 * (TN n + 5) := Int.mul_le_mul_of_nonneg_right (by omega) (by omega)
      omega
    have nA : A ∉ [p.dw, p.dm] := fun h => L.nin ltA (sl_two _ h)
    refine W_If ?_
    repeat' wtm_at "W"
    rcases hr with rfl | rfl
    · with_reducible refine itT (by with_unfolding_all rfl) ?_
      repeat' wtm_at "W"
      refine W_world hv V.L (f := 585) (by kernel_rfl) (by decide) ?_
      repeat' wtm_at "W"
      obtain ⟨num, ms, T⟩ := V.L.T
      refine W_call (list_of_spec hw (hv.less (by omega)) T V.PA.il nA (by omega) fun a li' G2 Z2 n2 ms2 T2 g2 le2 e2 Ha Hl => ?_)
      obtain ⟨L2, g2⟩ := V.L.grow T2 g2
      have PB3 := PB2.grow g2 (L.nin lB)
      repeat' wtm_at "W"
      refine W_join PB3.il SV2 (by show _ + _ * 2 ≤ _; omega) fun t4 => ?_
      refine W_adds (by rw [sizeLine_eq]; show 1 + _ ≤ _; omega) fun _ => ?_
      refine W_str fun _ => ?_
      refine W_adds (by rw [sizeLine_eq, str_append_len]; show 1 + _ + 1 ≤ _; omega) fun _ => ?_
      repeat' wtm_at "W"
      have R2 : Two (Rep Z2 n) us ss := by
        rcases V.R with ⟨_, h⟩ | ⟨h, _⟩
        · exact h.imp fun _ _ h => h.sub g2.zz
        · exact absurd h (by decide)
      exact c _ _ (.ref a) ("[" ++ Txt.join ", " ss ++ "]") _ _ Z2 ((L2.mono (by omega)).sub Sub.cons) ((V.g.trans g2).sub Sub.cons) ((V.g.trans g2).lt (by assumption)) (by assumption) (.inr (.inl ⟨a, li', us, ss, rfl, rfl, Ha, Hl, by omega, R2⟩))
    · with_reducible refine itF (by with_unfolding_all rfl) ?_
      repeat' wtm_at "W"
      refine W_world hv V.L (f := 592) (by kernel_rfl) (by decide) ?_
      repeat' wtm_at "W"
      obtain ⟨cs, hvp, hnd, hcs⟩ : ∃ cs, VP Z' n us cs ss ∧ cs.Nodup ∧ ∀ c ∈ cs, c ∈ keyCodes := by
        rcases V.R with ⟨h, _⟩ | ⟨_, h⟩
        · exact absurd h (by decide)
        · exact h
      have hcl : cs.length = us.length := hvp.len
      refine W_ListComp (cl := []) hv (by rfl) (by kernel_rfl) ?_ (fun _ => rfl)
      repeat' wtm_at "W"
      refine W_iter_list hv V.PA.il fun Iv oV ltV TV => ?_
      refine ⟨Iv, _, _, _, rfl, by rw [sizeLine_eq]; omega, TV, fun C D3 G4 s4 lt hfp dc NC PD => ?_⟩
      refine CompTurns.frz (Gb := Ga) (fun i acc Zc => PT Ga Z' n Zc acc (cs.take i) (ss.take i)) ltV Sub.cons s4 lt hfp ⟨_, .head _⟩ dc .nil ?_ ?_
      · intro i acc lc a1 G1 Zc zb zg zc hi hP hJ NC
        obtain ⟨t, key, val, code, ahead, told, tm, rfl, htl, hk, hr, hcj, hsj⟩ := hvp.get hP
        have il := htl.sub (V.L.zg.trans (zb.trans zg))
        refine W_asgTupE hv il ?_ (by rfl) (by rfl)
        refine W_order_cons (W_asgName (W_cstore NC (fun G4 b4 NC4 => ?_) rfl (by kernel_rfl)))
        refine W_order_cons (W_asgName (W_cstore NC4 (fun G5 b5 NC5 => ?_) rfl (by kernel_rfl)))
        refine W_order_cons (W_asgName (W_cstore NC5 (fun G6 b6 NC6 => ?_) rfl (by kernel_rfl)))
        refine W_order_nil ?_
        have b46 := b4.trans (b5.trans b6)
        repeat' wtm_at "W"
        rename_i t' o' ltt TTn
        have low := b46.low NC6.mem ltt
        refine ⟨rfl, fun p hp ne => .tail _ (b46 p hp ne), ⟨_, NC6.sub Sub.cons⟩, (t', o') :: Zc, Sub.cons, ?_, ?_, ?_⟩
        · intro p hp
          rcases List.mem_cons.mp hp with rfl | hp
          · exact .head _
          · exact .tail _ (b46 p (zg p hp) (zc p hp))
        · intro p hp
          rcases List.mem_cons.mp hp with rfl | hp
          · exact .inr low
          · exact .inl hp
        · rw [take_snoc hcj, take_snoc hsj]
          refine (hJ.sub Sub.cons).snoc (.head _) (fun q hq => low q (zg q (zb q hq))) ?_ hk hr
          obtain ⟨o', m, r⟩ := TTn
          refine ⟨o', ?_, r⟩
          rcases List.mem_cons.mp m with e | m
          · cases e; exact .head _
          · exact absurd rfl (Nat.ne_of_lt (ltt _ m))
      · intro acc Zc hl2 zb hJ G5 s5 PD5
        rw [List.take_of_length_le (by omega), List.take_of_length_le (by omega)] at hJ
        have gs := zb.trans s5
        obtain ⟨Zx, gx5, zgx, zzx, hps⟩ := (hJ.sub s5).freeze (Grow.ofSub (S := SL p b) gs) (V.L.zg.trans gs)
        have L5 := (V.L.sub gs).still (V.L.st.grow gx5 zgx) zzx
        obtain ⟨num, ms, T⟩ := L5.T
        have nD : D3 ∉ [p.dw, p.dm] := fun h => L.nin (V.g.lt fun q hq => lt q (.tail _ hq)) (sl_two _ h)
        repeat' wtm_at "W"
        refine W_call (table_of_spec hw (hv.less (by omega)) T PD5.il nD (by omega) hps hnd fun a G6 Z6 n6 ms6 T6 g6 le6 e6 R6 => ?_)
        obtain ⟨L6, g6⟩ := L5.grow T6 g6
        have PB3 := (PB2.sub gs).grow g6 (L.nin lB)
        repeat' wtm_at "W"
        refine W_join PB3.il SV2 (by show _ + _ * 2 ≤ _; omega) fun t4 => ?_
        refine W_adds (by rw [sizeLine_eq]; show 1 + _ ≤ _; omega) fun _ => ?_
        refine W_str fun _ => ?_
        refine W_adds (by rw [sizeLine_eq, str_append_len]; show 1 + _ + 1 ≤ _; omega) fun _ => ?_
        repeat' wtm_at "W"
        have gg := V.g.trans (gx5.trans g6)
        exact c _ _ (.ref a) ("{" ++ Txt.join ", " ss ++ "}") _ _ Z6 ((L6.mono (by omega)).sub Sub.cons) (gg.sub Sub.cons) (gg.lt (by assumption)) (by assumption) R6
end
section
variable {v : V} {l : Locs} {G Z : Led} {nm : Str} {sc : Scope} {d : Nat} {k : Value → Locs → Led → Prop} {pos : Pos} {env : Env} {w : World} {p : WP} {b : Addr} {tk : Int} {ob : Addr} {no : Int} {cm : Int}
theorem val_succ {n D : Nat} (S : ValOk n D) (hD : 23 ≤ D) (hB : BB n ≤ 50000) (hn : n ≤ 2) : ValOk (n + 1) (D + 1) := by
  intro v nm sc l G Z k w p b tk ob no cm td hw hv L hc c
  have tp := TN_pos n
  have hc' : cm + (12 + 3 * (TN n + 5)) ≤ 600000 := hc
  refine C_fnP hv (kf_758 _) (by kernel_rfl) [("deep", .int (n + 1 : Nat) td), ("world", .ref p.wd), ("box", .ref b)] (fun S => by kernel_rfl) (by kernel_rfl) fun v' hv' hw' => ?_
  have hw2 := hw'.trans hw
  have hv23 : Ok v' "_law_value" (fscope (topS 52)) 23 := hv'.less hD
  refine val_head (n := n + 1) hw2 hv23 L (by omega) (by wtm_at "L") (by wtm_at "L") (by wtm_at "L") fun r tr G1 L1 g1 hr => ?_
  rcases hr with hr | ⟨_, hr⟩
  · exact val_leaf hw2 hv23 L1 (by omega) hr (by wtm_at "L") (by wtm_at "L") (by wtm_at "L") fun t ts u s l' G' Z' L' g' lt TT R => ⟨_, Sub.rfl, c t ts u s G' Z' (L'.mono (by show _ ≤ cm + (12 + 3 * (TN n + 5)); omega)) (g1.trans g') (g1.lt lt) TT (Rep.leaf R)⟩
  have down : W v' (execs (List.drop 9 (fbody (topS 52))) (v'.env "_law_value" (fscope (topS 52)))) [("way", .int r tr), ("deep", .int (n + 1 : Nat) td), ("world", .ref p.wd), ("box", .ref b)] G1 fun fl _ G' => ∃ G2, Sub G2 G' ∧ k (retV fl) l G2 :=
    val_down S hD hB hw2 hv' L1 (by omega) hr (by wtm_at "L") (by wtm_at "L") (by wtm_at "L") (by wtm_at "L") fun t ts u s l' G' Z' L' g' lt TT R => ⟨_, Sub.rfl, c t ts u s G' Z' (L'.mono (by show _ ≤ cm + (12 + 3 * (TN n + 5)); omega)) (g1.trans g') (g1.lt lt) TT R⟩
  refine W_If ?_
  repeat' wtm_at "W"
  rcases hr with rfl | rfl
  · iterate 6
      with_reducible refine itF (by with_unfolding_all rfl) ?_
      repeat' wtm_at "W"
    exact itF rfl (W_nil (Nx_next down))
  · iterate 6
      with_reducible refine itF (by with_unfolding_all rfl) ?_
      repeat' wtm_at "W"
    exact itF rfl (W_nil (Nx_next down))
end
theorem val3 : ValOk 3 27 := val_succ (val_succ (val_succ val0 (by decide) (by decide) (by decide)) (by decide) (by decide) (by decide)) (by decide) (by decide) (by decide)
section
variable {v : V} {l : Locs} {G : Led} {nm : Str} {sc : Scope} {d : Nat} {k : Value → Locs → Led → Prop}
/-- C_fnP, and what the heap held at the start is still held -/
theorem C_fnH {f : Addr} {name qual : Str} {params : Arguments} {body : List Stmt} {scope : Scope} {dV kV doc pm cdv ct oc : Value} {an od : Option Addr} {osl : Array (Option Value)} {args : PySem.Args}
    (hv : Ok v nm sc (d + 1)) (ho : (K v.w.params).lookup f = some ⟨oc, od, .func (fnOf name qual params body scope dV kV doc pm an cdv ct), osl⟩) (hcd : codeIn (K v.w.params) cdv qual = true) (L : Locs)
    (hb : ∀ S, peek (K v.w.params) S (bindArgs (fnOf name qual params body scope dV kV doc pm an cdv ct) args) = some L.reverse) (hs : scopeOk scope (L.map (·.1)) = true)
    (h : ∀ v', Ok v' qual scope d → v'.w = v.w → (∀ b o, v.h₀.get? b = some o → v'.h₀.get? b = some o) → W v' (execs body (v'.env qual scope)) L G fun fl _ G' => ∃ G2, Sub G2 G' ∧ k (retV fl) l G2) : C v (.call (.ref f) args) l G k := by
  refine C_post fun s R F N c => ?_
  have X := hv.X.keeps F.keep
  have hs' : scopeOk scope (L.reverse.map (·.1)) = true := by
    unfold scopeOk at hs ⊢
    rw [List.map_reverse, List.all_reverse]; exact hs
  unfold scopeOk at hs'
  simp only [Bool.and_eq_true, Bool.not_eq_true', List.all_eq_true, beq_iff_eq, bne_iff_ne] at hs'
  obtain ⟨⟨⟨⟨s1, s2⟩, s3⟩, s4⟩, s5⟩ := hs'
  have hlim : v.h₀.NoLimit := by obtain ⟨_, _, _, _, T⟩ := hv.T; exact T.nolimit
  refine callX_plain (cl := []) hv.B F N hlim hv.fr rfl hv.kd (X _ _ ho) rfl (codeRec_of X hcd) (by have := hv.dp; omega) (kp_binds X hb) (fun y hy => s2 _ (List.mem_map_of_mem hy)) (fun g L' h₁ FG F' N' B' st _ => ?_) s1 s3 s4 s5
  refine h (v.into nm sc g L' f cdv [] qual scope) (hv.into s5 B' st) rfl FG.keep _ _ _ (by rw [← List.reverse_reverse L]; exact F') N' fun fl l' G' h' tk' x F2 N2 => ?_
  cases fl <;> exact leaveK_ F2 N2 fun F3 N3 => c _ l G' _ _ x F3 N3
end
section
variable {v : V} {l : Locs} {G : Led} {nm : Str} {sc : Scope} {d : Nat} {k : Value → Locs → Led → Prop} {pos : Pos} {env : Env} {value : Expr}
/-- the first cells of a list of the start -/
theorem W_slice_h0 {hi : Expr} {p : Pos} (h : W v (eval value env) l G fun o l1 G1 => W v (eval hi env) l1 G1 fun a l3 G3 => ∃ ax vs i ui, o = .ref ax ∧ a = .int i ui ∧ v.h₀.IsList ax vs ∧ vs.size ≤ sizeLine ∧ ∀ t ob, (∀ q ∈ G3, q.1 < t) → IL ((t, ob) :: G3) t (slicePick vs none (some i) none).toList → k (.ref t) l3 ((t, ob) :: G3))
    (hs : ∀ x D, subscripted (.Slice none (some hi) none p) false (.ref x) (.ref D) = operate [.ref D, .ref x] (getItem (.ref x) (.ref D))) (hg : ∀ x r, letTemporaryGo value (.ref x) r = pure ()) :
    W v (eval (.Subscript value (.Slice none (some hi) none p) pos) env) l G k := fun s Q E F N c => by
  refine Subscript_ (h s _ E F N fun o l1 G1 h1 t1 x1 F1 N1 => ?_)
  show wpAny _ _ (do
    let l ← valueOrNone none
    let u ← holding [l] (eval hi env)
    let s ← holding [l, u] (valueOrNone none)
    newFields "slice" [l, u, s]) _ _ _
  refine wpAny_bind (wpAny_pure (wpAny_bind (wpAny_holding (x1 { s with heap := h1, toks := t1 } _ E F1 N1 fun a l2 G2 h2 t2 x2 F2 N2 => wpAny_bind (wpAny_holding (wpAny_pure ?_))))))
  obtain ⟨ax, vs, i, ui, rfl, rfl, hl, hsz, hk⟩ := x2
  refine wpAny_newObj_type ?_
  obtain ⟨ol, ho, hr⟩ := hl
  refine slice_list (s := { s with heap := h2, toks := t2 }) F2 N2 ⟨ol, F2.keep _ _ ho, hr⟩ .none (.int _ _) (fun h' F' N' => ?_) (hs ax _) (hg ax) hsz
  exact c _ l2 _ h' _ (hk _ _ (fun q hq => Nat.lt_succ_of_lt (Heap.lt_size (N2 q hq).1)) ⟨_, .head _, rfl, _, rfl⟩) F' N'
end
theorem kf_725 (P) : (K P).lookup 725 = some (k725 P) := by kernel_rfl
section
variable {v : V} {l : Locs} {G : Led} {nm : Str} {sc : Scope} {d : Nat} {k : Value → Locs → Led → Prop}
theorem box_spec {ax : Addr} {vs : Array Value} (hv : Ok v nm sc (d + 1)) (hl : v.h₀.IsList ax vs) (hi : ∀ x ∈ (slicePick vs none (some 24) none).toList, ∃ i t, x = .int i t) (hn : vs.size ≤ 63) (h : ∀ b o, (∀ q ∈ G, q.1 < b) → 770 < b → BX ((b, o) :: G) b 0 → k (.ref b) l ((b, o) :: G)) : C v (.call (.ref 725) ⟨[.ref ax], []⟩) l G k := by
  refine C_fnH hv (kf_725 _) (by kernel_rfl) [("script", .ref ax)] (fun S => by kernel_rfl) (by kernel_rfl) fun v' hv' hw' low => ?_
  have hl' : v'.h₀.IsList ax vs := let ⟨o, ho, r⟩ := hl; ⟨o, low _ _ ho, r⟩
  refine W_AssignTup ?_
  repeat' wtm_at "W"
  refine W_asgTupE hv' (by assumption) ?_ (by rfl) (by rfl)
  refine W_order_cons (W_asgName (W_store hv' ?_ (by kernel_rfl)))
  refine W_order_cons (W_asgName (W_store hv' ?_ (by kernel_rfl)))
  refine W_order_nil ?_
  refine W_For (nm := "_law_box") (sc := fscope (topS 47)) ?_ hv' (fun _ => by rfl)
  refine W_slice_h0 ?_ (by intros; with_unfolding_all rfl) (by intros; with_unfolding_all rfl)
  repeat' wtm_at "W"
  refine ⟨ax, vs, 24, _, rfl, rfl, hl', by rw [sizeLine_eq]; omega, fun S oS ltS TS => ?_⟩
  refine W_iter_list hv' TS fun I oI ltI TI => ?_
  refine ⟨I, _, _, _, fun i l' G' => ∃ sd t1 gr t2, l'.lookup ("seed" : Str) = some (.int sd t1) ∧ l'.lookup ("great" : Str) = some (.int gr t2) ∧ 0 ≤ sd ∧ sd < 2147483629 ∧ Sub G G', rfl, TI, ?_, ?_, ?_, ?_⟩
  · exact ⟨_, _, _, _, by wtm_at "L", by wtm_at "L", by decide, by decide, Sub.cons.trans (Sub.cons.trans Sub.cons)⟩
  · rintro i l1 Ga Gb ⟨sd, t1, gr, t2, h1, h2, h3, h4, sb⟩ bt
    exact ⟨sd, t1, gr, t2, h1, h2, h3, h4, fun p hp => bt p (sb p hp) (Nat.ne_of_lt (ltI p (.tail _ (.tail _ hp))))⟩
  · rintro i a l1 Ga hi' hP ⟨sd, t1, gr, t2, h1, h2, h3, h4, sb⟩ TI'
    obtain ⟨cl, ct, rfl⟩ := hi a (List.mem_of_getElem? hP)
    refine W_asgName (W_store hv' ?_ (by kernel_rfl))
    have end' : ∀ (l2 : Locs) sd' t1' gr' t2', l2.lookup ("seed" : Str) = some (.int sd' t1') → l2.lookup ("great" : Str) = some (.int gr' t2') → 0 ≤ sd' → sd' < 2147483629 → ∃ sd t1 gr t2, l2.lookup ("seed" : Str) = some (.int sd t1) ∧ l2.lookup ("great" : Str) = some (.int gr t2) ∧ 0 ≤ sd ∧ sd < 2147483629 ∧ Sub G Ga := fun l2 sd' t1' gr' t2' a b c e => ⟨_, _, _, _, a, b, c, e, sb⟩
    repeat' wtm_at "W"
    refine W_mul (IntMulOk.of_right (by decide)) fun _ => ?_
    repeat' wtm_at "W"
    refine W_mul (IntMulOk.of_right (by decide)) fun _ => ?_
    repeat' wtm_at "W"
    refine W_mod (by decide) fun _ => ?_
    have m0 := Int.fmod_nonneg_of_pos (sd * 48271 + cl * 69621 + 59) (show (0 : Int) < 2147483629 by decide)
    have m1 := Int.fmod_lt_of_pos (sd * 48271 + cl * 69621 + 59) (show (0 : Int) < 2147483629 by decide)
    generalize Int.fmod (sd * 48271 + cl * 69621 + 59) 2147483629 = sd' at m0 m1 ⊢
    repeat' wtm_at "W"
    cases hg : (gr == 0) with
    | false =>
      repeat' (first | with_reducible refine itF (by with_unfolding_all rfl) ?_ | wtm_at "W")
      exact ⟨end' _ _ _ _ _ (by wtm_at "L") (by wtm_at "L") m0 m1, TI'⟩
    | true =>
      repeat' (first | with_reducible refine itT (by with_unfolding_all rfl) ?_ | wtm_at "W")
      refine W_abs fun _ => ?_
      generalize (if cl < 0 then -cl else cl) = ab
      repeat' wtm_at "W"
      refine W_pow (by decide) (by decide) fun _ => ?_
      repeat' wtm_at "W"
      split
      · repeat' wtm_at "W"
        refine W_abs fun _ => ?_
        repeat' wtm_at "W"
        exact ⟨end' _ _ _ _ _ (by wtm_at "L") (by wtm_at "L") m0 m1, TI'⟩
      · repeat' wtm_at "W"
        exact ⟨end' _ _ _ _ _ (by wtm_at "L") (by wtm_at "L") m0 m1, TI'⟩
  · rintro l1 Ga ⟨sd, t1, gr, t2, h1, h2, h3, h4, sb⟩
    repeat' (first | (with_reducible refine W_newListH hv' (by wtm_at "Z") fun b o lt lo P => ?_) | wtm_at "W")
    rename_i t3 t4
    obtain ⟨n, rfl⟩ := IL.of_cons P lt
    have hB : BX ((b, listOf [.int gr t2, .int sd t1, .int 0 t3, .int 14 t4].toArray n) :: G) b 0 := ⟨gr, sd, 0, 14, t2, t1, t3, t4, ⟨_, .head _, rfl, n, rfl⟩, h3, by omega, Int.le_refl _, Int.le_refl _⟩
    refine ⟨_, fun q hq => ?_, h b _ (fun q hq => lt q (sb q hq)) lo hB⟩
    rcases List.mem_cons.mp hq with rfl | hq
    · exact .head _
    · exact .tail _ (sb _ hq)
end
section
variable {v : V} {l : Locs} {G : Led} {nm : Str} {sc : Scope} {d : Nat} {k : Value → Locs → Led → Prop}
theorem eq_self_str {A : Around} {s : Shared} (a : Str) (t u : Tok) : PySem.SeqAt.EqAt A s (.str a t) (.str a u) true := by
  have := PySem.SeqAt.EqAt.str_str (A := A) (s := s) a t a u
  rwa [show (a == a) = true by simp] at this
theorem tup3_at {A : Around} {s : Shared} {x y z : Str} {t1 t2 t3 u1 u2 u3 : Tok} (j : Nat) (h1 : j < #[Value.str x t1, .str y t2, .str z t3].size) (h2 : j < #[Value.str x u1, .str y u2, .str z u3].size) : PySem.SeqAt.EqAt A s #[Value.str x t1, .str y t2, .str z t3][j] #[Value.str x u1, .str y u2, .str z u3][j] true := by
  rcases j with _ | _ | _ | j
  · exact eq_self_str x t1 u1
  · exact eq_self_str y t2 u2
  · exact eq_self_str z t3 u3
  · exact absurd h1 (by simp)
theorem W_neTup {a c : Addr} {x y z : Str} {t1 t2 t3 u1 u2 u3 : Tok} (hv : Ok v nm sc (d + 1)) (T1 : TL G a [.str x t1, .str y t2, .str z t3]) (T2 : TL G c [.str x u1, .str y u2, .str z u3]) (h : k (.bool false) l G) : W v (compareOp .NotEq (.ref a) (.ref c)) l G k := fun s Q E F N kk => by
  obtain ⟨o1, m1, c1, n1, d1⟩ := T1
  obtain ⟨o2, m2, c2, n2, d2⟩ := T2
  have hu : v.A.units < cLine := by have := hv.un; omega
  exact PySem.SeqAt.RcNeAt.tuples (A := v.A) (s := s) (e := fun _ => true) ⟨o1, (N _ m1).1, c1, n1, d1⟩ ⟨o2, (N _ m2).1, c2, n2, d2⟩ hu tup3_at pw v.w E Q (kk _ l G s.heap s.toks h F N)
theorem W_eqTup {a c : Addr} {x y z : Str} {t1 t2 t3 u1 u2 u3 : Tok} (hv : Ok v nm sc (d + 1)) (T1 : TL G a [.str x t1, .str y t2, .str z t3]) (T2 : TL G c [.str x u1, .str y u2, .str z u3]) (h : k (.bool true) l G) : W v (compareOp .Eq (.ref a) (.ref c)) l G k := fun s Q E F N kk => by
  obtain ⟨o1, m1, c1, n1, d1⟩ := T1
  obtain ⟨o2, m2, c2, n2, d2⟩ := T2
  have hu : v.A.units < cLine := by have := hv.un; omega
  exact PySem.SeqAt.RcAt.tuples (A := v.A) (s := s) (e := fun _ => true) ⟨o1, (N _ m1).1, c1, n1, d1⟩ ⟨o2, (N _ m2).1, c2, n2, d2⟩ hu tup3_at pw v.w E Q (kk _ l G s.heap s.toks h F N)
end
/-- the world, the box in its cell, what was written -/
structure LX (w : World) (p : WP) (b : Addr) (tk : Int) (ob : Addr) (no : Int) (cm : Int) (cA : Addr) (os : List Value) (G Z : Led) : Prop where
  L : LG w p b tk ob no cm G Z
  ce : ∃ oB, (cA, oB) ∈ G ∧ oB.data = .cell (some (.ref b))
  cn : cA ∉ SL p b ∧ cA ≠ p.ou
  ou : p.ou ∉ SL p b ∧ p.ou ≠ p.wd ∧ p.ou ≠ p.na ∧ p.ou ≠ p.pr
  ol : PL G p.ou os
section
variable {w : World} {p : WP} {b : Addr} {tk tk' : Int} {ob : Addr} {no : Int} {cm cm' : Int} {cA : Addr} {os : List Value} {G Z G' Z' : Led}
theorem LX.move (X : LX w p b tk ob no cm cA os G Z) (L : LG w p b tk' ob no cm' G' Z') (g : Grow (SL p b) G Z G' Z') : LX w p b tk' ob no cm' cA os G' Z' :=
  ⟨L, let ⟨o, m, h⟩ := X.ce; ⟨o, g.but _ m X.cn.1, h⟩, X.cn, X.ou, X.ol.grow g X.ou.1⟩
theorem LX.sub (X : LX w p b tk ob no cm cA os G Z) (s : Sub G G') : LX w p b tk ob no cm cA os G' Z :=
  ⟨X.L.sub s, let ⟨o, m, h⟩ := X.ce; ⟨o, s _ m, h⟩, X.cn, X.ou, X.ol.sub s⟩
theorem LX.mono (X : LX w p b tk ob no cm cA os G Z) (le : cm ≤ cm') : LX w p b tk ob no cm' cA os G Z := ⟨X.L.mono le, X.ce, X.cn, X.ou, X.ol⟩
theorem LG.freshT {G0 Z0 : Led} {a : Addr} {tk0 cm0 : Int} (L0 : LG w p b tk0 ob no cm0 G0 Z0) (lt : ∀ q ∈ G0, q.1 < a) (L : LG w p b tk ob no cm G Z) (bt : But a G G') (hz : ∀ q ∈ Z, q.1 ≠ a) : LG w p b tk ob no cm G' Z := by
  obtain ⟨_, _, T0⟩ := L0.T
  have f := (T0.W.freshA lt).1
  exact ⟨let ⟨n, m, T⟩ := L.T; ⟨n, m, T.but bt f hz⟩, L.B.but bt fun e => f.1 (e ▸ .tail _ (.tail _ (.head _))), L.ne⟩
theorem LX.fresh {a : Addr} {G0 Z0 : Led} {tk0 cm0 : Int} {os0 : List Value} (X0 : LX w p b tk0 ob no cm0 cA os0 G0 Z0) (lt : ∀ q ∈ G0, q.1 < a) (X : LX w p b tk ob no cm cA os G Z) (bt : But a G G') (hz : ∀ q ∈ Z, q.1 ≠ a) : LX w p b tk ob no cm cA os G' Z :=
  ⟨X0.L.freshT lt X.L bt hz, let ⟨o, m, h⟩ := X.ce; ⟨o, bt _ m (let ⟨_, m0, _⟩ := X0.ce; Nat.ne_of_lt (show cA < a from lt _ m0)), h⟩, X.cn, X.ou, X.ol.but bt (let ⟨_, m0⟩ := X0.ol; Nat.ne_of_lt (show p.ou < a from lt _ m0))⟩
/-- a word is written -/
theorem LX.write {u : Value} (X : LX w p b tk ob no cm cA os G Z) (hz : ∀ q ∈ Z, q.1 ≠ p.ou) (bt : But p.ou G G') (P : PL G' p.ou (os ++ [u])) : LX w p b tk ob no cm cA (os ++ [u]) G' Z := by
  obtain ⟨n, m, T⟩ := X.L.T
  exact ⟨⟨⟨n, m, T.but bt X.ou hz⟩, X.L.B.but bt fun e => X.ou.1 (e ▸ .tail _ (.tail _ (.head _))), X.L.ne⟩, let ⟨o, m, h⟩ := X.ce; ⟨o, bt _ m X.cn.2, h⟩, X.cn, X.ou, P⟩
theorem IL.growS {S : List Addr} {a : Addr} {vs : List Value} (h : IL G a vs) (g : Grow S G Z G' Z') (ha : a ∉ S) : IL G' a vs := let ⟨o, m, r⟩ := h; ⟨o, g.but _ m ha, r⟩
end
section
variable {v : V} {l : Locs} {G : Led} {nm : Str} {sc : Scope} {d : Nat} {w : World}
theorem W_apart {α : Type} {t : Sem α} {k : α → Locs → Led → Prop} {a c : Addr} {o o' : Obj} (h1 : (a, o) ∈ G) (h2 : (c, o') ∈ G) (ne : o.data ≠ o'.data) (h : a ≠ c → W v t l G k) : W v t l G k := fun s Q E F N cc =>
  h (fun e => ne (by
    have e1 := (N _ h1).1
    have e2 := (N _ h2).1
    subst e
    dsimp only at e1 e2
    rw [e1] at e2
    cases e2; rfl)) s Q E F N cc
theorem law_init {ax cA : Addr} {oC : Obj} {vs : Array Value} {ns : List Int} {kf : Flow → Locs → Led → Prop} (hw : v.w = w) (hv : Ok v "law" (fscope (topS 54)) 31) (hcl : v.cl = [(("box" : Str), cA)]) (ho : oC.data = .cell none) (hl : v.h₀.IsList ax vs) (hi : IntsAre vs.toList ns) (hn : vs.size ≤ 63)
    (c : ∀ p b ob no G' Z, LX w p b 0 ob no 0 cA [] G' Z → (∀ q ∈ Z, q.1 ≠ p.ou) → W v (execs (List.drop 1 (fbody (topS 54))) (v.env "law" (fscope (topS 54)))) [("world", .ref p.wd), ("script", .ref ax)] G' kf) :
    W v (execs (fbody (topS 54)) (v.env "law" (fscope (topS 54)))) [("script", .ref ax)] [(cA, oC)] kf := by
  have hcell : v.cl.lookup ("box" : Str) = some cA := by rw [hcl]; rfl
  have hup : ∀ x ∈ (slicePick vs none (some 24) none).toList, ∃ i t, x = .int i t := by
    have h := slice_ints_uptoW hi (y := 24) (by decide)
    rw [Array.toArray_toList] at h
    exact h.all
  refine W_AssignTup ?_
  repeat' wtm_at "W"
  refine W_call (box_spec (d := 0) (hv.less (by omega)) hl hup hn fun b ob lb lo B => ?_)
  repeat' wtm_at "W"
  rename_i na ona ltna SDna dfna t5
  have lbna : b ≠ na := Nat.ne_of_lt (ltna _ (.head _))
  rw [hw] at SDna
  refine init_spec (Z := []) hw (hv.less (by omega)) SDna lo lbna.symm ⟨fun _ h => (nomatch h), fun _ h => (nomatch h), fun a ha => ?_⟩ fun p obj no G1 Z1 num ms T1 sb1 P1 ou1 neb ouz => ?_
  · have : a = b := by simpa using ha
    rw [this]; exact ⟨_, .tail _ (.head _)⟩
  repeat' wtm_at "W"
  rename_i tt ott ltt TT
  refine W_asgTupE hv TT ?_ (by rfl) (by rfl)
  have mC : (cA, oC) ∈ (tt, ott) :: G1 := .tail _ (sb1 _ (.tail _ (.tail _ (.head _))))
  have L1 : LG w p b 0 obj no 0 ((tt, ott) :: G1) Z1 := ⟨⟨_, _, T1.sub Sub.cons⟩, B.sub ((Sub.cons (p := (na, ona))).trans (Sub.trans sb1 Sub.cons)), neb⟩
  have P2 : PL ((tt, ott) :: G1) p.ou [] := P1.sub Sub.cons
  obtain ⟨_, _, _, IX⟩ := T1.W.hx
  obtain ⟨fs, ⟨mx, es, n, mdw, _⟩, _⟩ := IX
  obtain ⟨_, mdm, ⟨_, _, _, dm, _⟩, _⟩ := T1.W.sm
  obtain ⟨_, mna, ⟨_, _, _, dna, _⟩, _⟩ := T1.W.sn
  obtain ⟨_, mpr, ⟨_, _, _, dpr, _⟩, _⟩ := T1.W.sp
  obtain ⟨_, _, _, mb, db⟩ := L1.B.mem
  obtain ⟨_, mou⟩ := P2
  refine W_apart mC (.tail _ mdw) (by rw [ho]; exact nofun) fun n1 => ?_
  refine W_apart mC (.tail _ mx) (by rw [ho]; exact nofun) fun n2 => ?_
  refine W_apart mC (.tail _ mdm) (by rw [ho, dm]; exact nofun) fun n3 => ?_
  refine W_apart mC (.tail _ mna) (by rw [ho, dna]; exact nofun) fun n4 => ?_
  refine W_apart mC (.tail _ mpr) (by rw [ho, dpr]; exact nofun) fun n5 => ?_
  refine W_apart mC mb (by rw [ho, db]; exact nofun) fun n6 => ?_
  refine W_apart mC mou (by rw [ho]; exact nofun) fun n7 => ?_
  have nS : cA ∉ SL p b := fun h => by
    rcases List.mem_cons.mp h with e | h
    · exact n1 e
    rcases List.mem_cons.mp h with e | h
    · exact n3 e
    · exact n6 (by simpa using h)
  have hz : ∀ q ∈ Z1, q.1 ≠ cA := fun q hq => by
    rcases (ouz q hq).2 with h | h
    · exact nomatch h
    · exact Nat.ne_of_gt (h _ (.tail _ (.tail _ (.head _))))
  refine W_order_cons (W_asgName (W_storeC hv hcell mC ho (fun G2 oB b2 mB hB => ?_) (by kernel_rfl)))
  refine W_order_cons (W_asgName (W_store hv ?_ (by kernel_rfl)))
  refine W_order_nil ?_
  obtain ⟨num1, ms1, T2⟩ := L1.T
  exact c p b obj no G2 Z1 ⟨⟨⟨num1, ms1, T2.but b2 ⟨nS, n2, n4, n5⟩ hz⟩, L1.B.but b2 n6.symm, neb⟩, ⟨oB, mB, hB⟩, ⟨nS, n7⟩, ou1, PL.but ⟨_, mou⟩ b2 n7.symm⟩ fun q hq => (ouz q hq).1
end
section
variable {v : V} {l : Locs} {G Z : Led} {nm : Str} {sc : Scope} {d : Nat} {w : World} {p : WP} {b : Addr} {tk : Int} {ob : Addr} {no : Int} {cm : Int} {cA : Addr} {os : List Value} {kf : Flow → Locs → Led → Prop}
theorem law_comp (hw : v.w = w) (hv : Ok v "law" (fscope (topS 54)) 31) (hcl : v.cl = [(("box" : Str), cA)]) (X : LX w p b tk ob no 0 cA os G Z)
    (c : ∀ wr ws xs G', LX w p b tk ob no 10 cA os G' Z → IL G' wr ws → StrsV ws xs → xs.length ≤ 3 → (∀ x ∈ xs, x ∈ wordL) → wr ∉ SL p b → wr ≠ p.ou → W v (execs (List.drop 2 (fbody (topS 54))) (v.env "law" (fscope (topS 54)))) (("written", .ref wr) :: l) G' kf) :
    W v (execs (List.drop 1 (fbody (topS 54))) (v.env "law" (fscope (topS 54)))) l G kf := by
  have hcell : v.cl.lookup ("box" : Str) = some cA := by rw [hcl]; rfl
  refine W_AssignComp (y := "written") (cl := [("box", cA)]) hv ?c1 (by kernel_rfl) ?_ (by kernel_rfl) (by kernel_rfl) (fun _ => rfl)
  case c1 => 
    unfold V.env
    rw [hcl]
    rfl
  obtain ⟨oB, mB, hB⟩ := X.ce
  repeat' wtm_at "W"
  refine W_call (take_law (d := 0) (hv.less (by omega)) X.L (by omega) (by decide) (by decide) fun r tr G1 L1 g1 r0 r1 => ?_)
  have X1 := X.move L1 g1
  repeat' wtm_at "W"
  refine W_range1 fun rg org ltr RT => ?_
  refine W_iter_range hv RT (by omega) (by omega) fun I oI ltI TI => ?_
  refine ⟨I, _, _, _, rfl, by rw [sizeLine_eq]; omega, TI, fun C D G3 s3 lt hfp dc NC PD => ?_⟩
  have X2 := X1.sub (Sub.cons (p := (rg, org)))
  have hS : ∀ a ∈ SL p b, ∃ o, (a, o) ∈ (rg, org) :: G1 := X2.L.st.at'
  refine CompTurns.grow (S := SL p b) (Gb := (rg, org) :: G1) (Z0 := Z) (fun i acc G' Z' => Z' = Z ∧ LX w p b tk ob no (1 + i) cA os G' Z' ∧ ∃ xs, StrsV acc xs ∧ xs.length = i ∧ ∀ x ∈ xs, x ∈ wordL)
    ltI hS (fun y hy => ?_) (fun q hq => ltI q (X2.L.zg q hq)) lt hfp ⟨_, .head _⟩ dc ⟨rfl, (X2.sub (Sub.trans Sub.cons s3)).mono (by omega), [], .nil, rfl, nofun⟩ (fun i acc Ga Gb Za a ⟨e, Xa, h⟩ bt lta hz => ⟨e, X2.fresh lta Xa bt hz, h⟩) ?_ ?_
  · have : y = I := by simpa using hy
    subst this
    exact X2.L.nin ltI
  · rintro i acc lc a Gc Zc hi hP ⟨rfl, Xc, xs, SV, hl, hx⟩ zc ltC NC
    have hC : C ∉ SL p b := X2.L.nin ltC
    refine W_asgName (W_cstore NC (fun Gd bd NCd => ?_) rfl (by kernel_rfl))
    have Xd := X2.fresh ltC Xc bd zc
    obtain ⟨oB, mB, hB⟩ := Xd.ce
    repeat' wtm_at "W"
    refine W_call (word_law (d := 0) (hv.less (by omega)) Xd.L (by omega) fun x tx Ge hx' Le ge => ?_)
    refine ⟨rfl, ⟨_, NCd.grow ge hC⟩, _, (Grow.ofBut bd (.head _) NCd.mem).trans (ge.mono fun _ h => .tail _ h), rfl, (Xd.move Le ge).mono (by omega), xs ++ [x], SV.snoc, by rw [List.length_append, hl]; rfl, fun y hy => ?_⟩
    rcases List.mem_append.mp hy with h | h
    · exact hx y h
    · have : y = x := by simpa using h
      subst this
      exact hx'
  · rintro acc Gc Zc hl ⟨rfl, Xc, xs, SV, hxl, hx⟩ PDc
    have ltD : ∀ q ∈ (rg, org) :: G1, q.1 < D := fun q hq => lt q (.tail _ hq)
    obtain ⟨_, mo⟩ := X2.ol
    exact c D acc xs Gc (Xc.mono (by omega)) PDc.il SV (by omega) hx (X2.L.nin ltD) (Nat.ne_of_gt (ltD _ mo))
end
section
variable {v : V} {l : Locs} {G Z : Led} {nm : Str} {sc : Scope} {d : Nat} {w : World} {p : WP} {b : Addr} {tk : Int} {ob : Addr} {no : Int} {cm : Int} {cA : Addr} {os : List Value} {kf : Flow → Locs → Led → Prop} {wr ax : Addr} {ws : List Value} {xs : List Str}
/-- the names of the law, behind the written words -/
def LN (l : Locs) (p : WP) (wr ax : Addr) : Prop := l.lookup ("world" : Str) = some (.ref p.wd) ∧ l.lookup ("written" : Str) = some (.ref wr) ∧ l.lookup ("script" : Str) = some (.ref ax)
theorem law_write (hw : v.w = w) (hv : Ok v "law" (fscope (topS 54)) 31) (X : LX w p b tk ob no cm cA [] G Z) (hz : ∀ q ∈ Z, q.1 ≠ p.ou) (hn : LN l p wr ax) (T : IL G wr ws) (SV : StrsV ws xs) (hl : ws.length ≤ 3) (h1 : wr ∉ SL p b) (h2 : wr ≠ p.ou)
    (c : ∀ l' G', LN l' p wr ax → LX w p b tk ob no cm cA ws G' Z → IL G' wr ws → W v (execs (List.drop 3 (fbody (topS 54))) (v.env "law" (fscope (topS 54)))) l' G' kf) :
    W v (execs (List.drop 2 (fbody (topS 54))) (v.env "law" (fscope (topS 54)))) l G kf := by
  obtain ⟨n1, n2, n3⟩ := hn
  refine W_For (nm := "law") (sc := fscope (topS 54)) ?_ hv (fun _ => by rfl)
  repeat' wtm_at "W"
  refine W_iter_list hv T fun I oI ltI TI => ?_
  refine ⟨I, _, _, _, fun i l' G' => LN l' p wr ax ∧ LX w p b tk ob no cm cA (ws.take i) G' Z ∧ IL G' wr ws, rfl, TI, ⟨⟨n1, n2, n3⟩, X.sub Sub.cons, T.sub Sub.cons⟩, ?_, ?_, ?_⟩
  · rintro i l1 Ga Gb ⟨a1, a2, a3⟩ bt
    exact ⟨a1, X.fresh ltI a2 bt fun q hq => Nat.ne_of_lt (ltI q (X.L.zg q hq)), a3.but bt (let ⟨_, m, _⟩ := T; Nat.ne_of_lt (ltI _ m))⟩
  · rintro i a l1 Ga hi hP ⟨⟨a1, a1', a1''⟩, a2, a3⟩ TI'
    obtain ⟨y, ty, rfl, hy⟩ := SV.get hP
    refine W_asgName (W_store hv ?_ (by kernel_rfl))
    refine W_Expr ?_ (hi := by kernel_rfl) (hs := by kernel_rfl)
    repeat' wtm_at "W"
    refine W_world hv a2.L (f := 488) (by kernel_rfl) (by decide) ?_
    repeat' wtm_at "W"
    obtain ⟨_, _, Tw⟩ := a2.L.T
    refine W_call (write_spec (d := 0) (hv.less (by omega)) Tw a2.ol (by rw [List.length_take]; omega) fun Gc bc Pc => ?_)
    refine W_nil ⟨⟨⟨by wtm_at "L", by wtm_at "L", by wtm_at "L"⟩, ?_, a3.but bc h2⟩, ?_⟩
    · rw [take_snoc hP]
      exact a2.write hz bc Pc
    · obtain ⟨_, mo⟩ := X.ol
      refine TI'.but bc (Nat.ne_of_gt (ltI _ mo)) fun hm => ?_
      rcases List.mem_cons.mp hm with e | hm
      · exact Nat.ne_of_lt (ltI _ mo) e
      · have : p.ou = wr := by simpa using hm
        exact h2 this.symm
  · rintro l1 Ga ⟨a1, a2, a3⟩
    rw [List.take_of_length_le (Nat.le_refl _)] at a2
    exact c l1 Ga a1 a2 a3
end
section
variable {v : V} {l : Locs} {G Z : Led} {nm : Str} {sc : Scope} {d : Nat} {w : World} {p : WP} {b : Addr} {tk : Int} {ob : Addr} {no : Int} {cm : Int} {cA : Addr} {os : List Value} {kf : Flow → Locs → Led → Prop} {wr ax : Addr} {ws : List Value} {xs : List Str}
theorem LX.tick {G' : Led} (X : LX w p b tk ob no cm cA os G Z) (bt : But p.dw G G') {num : Int} {ms : List (Str × Value)} (T : WG w p (SL p b) (tk + 1) ob no G' Z num ms) : LX w p b (tk + 1) ob no cm cA os G' Z :=
  X.move ⟨⟨_, _, T⟩, X.L.B.but bt X.L.ne.1, X.L.ne⟩ (Grow.ofBut bt (.head _) (let ⟨_, _, _, h⟩ := T.W.hx; h.mem))
theorem law_tick (hw : v.w = w) (hv : Ok v "law" (fscope (topS 54)) 31) (hcl : v.cl = [(("box" : Str), cA)]) (X : LX w p b 0 ob no 10 cA os G Z) (hn : LN l p wr ax) (T : IL G wr ws) (h1 : wr ∉ SL p b)
    (c : ∀ l' G' tk t, LN l' p wr ax → l'.lookup ("gone1" : Str) = some (.int tk t) → LX w p b tk ob no 11 cA os G' Z → IL G' wr ws → W v (execs (List.drop 5 (fbody (topS 54))) (v.env "law" (fscope (topS 54)))) l' G' kf) :
    W v (execs (List.drop 3 (fbody (topS 54))) (v.env "law" (fscope (topS 54)))) l G kf := by
  have hcell : v.cl.lookup ("box" : Str) = some cA := by rw [hcl]; rfl
  obtain ⟨n1, n2, n3⟩ := hn
  obtain ⟨oB, mB, hB⟩ := X.ce
  refine W_Assign (x := "gone1") ?_ (hs := by kernel_rfl)
  repeat' wtm_at "W"
  refine W_call (take_law (d := 0) (hv.less (by omega)) X.L (by omega) (by decide) (by decide) fun r tr G1 L1 g1 r0 r1 => ?_)
  have X1 := X.move L1 g1
  have T1 := T.growS g1 h1
  repeat' wtm_at "W"
  refine W_For (nm := "law") (sc := fscope (topS 54)) ?_ hv (fun _ => by rfl)
  repeat' wtm_at "W"
  refine W_range1 fun rg org ltr RT => ?_
  refine W_iter_range hv RT (by omega) (by omega) fun I oI ltI TI => ?_
  have ltI1 : ∀ q ∈ G1, q.1 < I := fun q hq => ltI q (.tail _ hq)
  refine ⟨I, _, _, _, fun i l' G' => LN l' p wr ax ∧ l'.lookup ("gone1" : Str) = some (.int r tr) ∧ LX w p b i ob no 11 cA os G' Z ∧ IL G' wr ws, rfl, TI, ⟨⟨by wtm_at "L", by wtm_at "L", by wtm_at "L"⟩, by wtm_at "L", (X1.sub Sub.cons).sub Sub.cons, (T1.sub Sub.cons).sub Sub.cons⟩, ?_, ?_, ?_⟩
  · rintro i l1 Ga Gb ⟨a1, a1', a2, a3⟩ bt
    refine ⟨a1, a1', ?_, a3.but bt (let ⟨_, m, _⟩ := T1; Nat.ne_of_lt (ltI1 _ m))⟩
    exact X1.fresh ltI1 a2 bt fun q hq => Nat.ne_of_lt (ltI1 q (X1.L.zg q hq))
  · rintro i a l1 Ga hi hP ⟨⟨a1, a2, a3⟩, a4, Xa, Ta⟩ TI'
    refine W_asgName (W_store hv ?_ (by kernel_rfl))
    refine W_Expr ?_ (hi := by kernel_rfl) (hs := by kernel_rfl)
    repeat' wtm_at "W"
    refine W_world hv Xa.L (f := 481) (by kernel_rfl) (by decide) ?_
    repeat' wtm_at "W"
    obtain ⟨_, _, Tw⟩ := Xa.L.T
    refine W_call (tick_spec (d := 0) (hv.less (by omega)) Tw (by omega) fun Gc bc Tc => ?_)
    have hdw : p.dw ∈ SL p b := .head _
    refine W_nil ⟨⟨⟨by wtm_at "L", by wtm_at "L", by wtm_at "L"⟩, by wtm_at "L", Xa.tick bc Tc, Ta.but bc (fun e => h1 (e ▸ hdw))⟩, ?_⟩
    have nI : I ≠ p.dw := fun e => X1.L.nin ltI1 (e ▸ hdw)
    exact TI'.but bc nI fun hm => nI (by simpa using (List.mem_singleton.mp hm).symm)
  · rintro l1 Ga ⟨a1, a4, Xa, Ta⟩
    rw [Int.toNat_of_nonneg r0] at Xa
    exact c l1 Ga r tr a1 a4 Xa Ta
end
section
variable {v : V} {l : Locs} {G Z : Led} {nm : Str} {sc : Scope} {d : Nat} {w : World} {p : WP} {b : Addr} {tk : Int} {ob : Addr} {no : Int} {cm : Int} {cA : Addr} {os : List Value} {kf : Flow → Locs → Led → Prop} {wr ax : Addr} {ws : List Value} {xs : List Str}
theorem LX.res (X : LX w p b tk ob no cm cA os G Z) : ∃ t, Has G p.wd 714 [("out", .ref p.ou), ("taken", .int tk t)] := by
  obtain ⟨_, _, T⟩ := X.L.T
  obtain ⟨tt, _, _, I⟩ := T.W.hx
  exact ⟨tt, I.has.weak (reqB_cons (by wtm_at "L") (reqB_cons (by wtm_at "L") reqB_nil))⟩
theorem ne_self {u : Str} : (u != u) = false := by simp
theorem law_error_part (hw : v.w = w) (hv : Ok v "law" (fscope (topS 54)) 31) (hcl : v.cl = [(("box" : Str), cA)]) (X : LX w p b tk ob no 11 cA os G Z) (hn : LN l p wr ax) (hg : ∃ t, l.lookup ("gone1" : Str) = some (.int tk t)) (T : IL G wr ws) (SV : StrsV ws xs) (SO : StrsV os xs) (hl : (xs.map (·.length)).sum ≤ 1000) (h1 : wr ∉ SL p b)
    (c : ∀ l' G' Z', LN l' p wr ax → (∃ t, l'.lookup ("gone1" : Str) = some (.int tk t)) → LX w p b tk ob no 20 cA os G' Z' → IL G' wr ws → W v (execs (List.drop 9 (fbody (topS 54))) (v.env "law" (fscope (topS 54)))) l' G' kf) :
    W v (execs (List.drop 5 (fbody (topS 54))) (v.env "law" (fscope (topS 54)))) l G kf := by
  have hcell : v.cl.lookup ("box" : Str) = some cA := by rw [hcl]; rfl
  obtain ⟨n1, n2, n3⟩ := hn
  obtain ⟨tg, hg⟩ := hg
  obtain ⟨oB, mB, hB⟩ := X.ce
  refine W_AssignTup ?_
  repeat' wtm_at "W"
  refine W_call (error_spec hw (hv.less (by omega)) X.L (by omega) fun t tn ts e name m said G1 Z1 L1 g1 lt1 TT E1 hm le1 le2 ne1 => ?_)
  have X1 := X.move L1 g1
  have T1 := T.growS g1 h1
  have E1' := E1.sub X1.L.zg
  have hr : raised name m = name ++ ": " ++ said := by
    rcases hm with ⟨rfl, rfl⟩ | rfl <;> rfl
  repeat' wtm_at "W"
  refine W_asgTupE hv TT ?_ (by rfl) (by rfl)
  refine W_order_cons (W_asgName (W_store hv ?_ (by kernel_rfl)))
  refine W_order_cons (W_asgName (W_store hv ?_ (by kernel_rfl)))
  refine W_order_cons (W_asgName (W_store hv ?_ (by kernel_rfl)))
  refine W_order_nil ?_
  refine W_If ?_
  repeat' wtm_at "W"
  refine W_call (raised_spec (d := 0) (hv.less (by omega)) E1' fun _ => ?_)
  repeat' wtm_at "W"
  refine W_adds (by rw [sizeLine_eq]; show _ + 2 ≤ _; omega) fun _ => ?_
  repeat' wtm_at "W"
  refine W_adds (by rw [sizeLine_eq, str_append_len]; show _ + 2 + _ ≤ _; omega) fun _ => ?_
  repeat' wtm_at "W"
  rw [hr]
  refine itF ne_self ?_
  repeat' wtm_at "W"
  obtain ⟨tr, I1⟩ := X1.res
  refine W_call (result_of_error (d := 0) (hv.less (by omega)) I1 X1.ol.il SO hl E1' fun x G2 s2 R2 => ?_)
  have X2 := X1.sub s2
  have T2 := T1.sub s2
  repeat' wtm_at "W"
  obtain ⟨dx, t1, t2, t3, t4, R2'⟩ := id R2
  refine W_method hv R2' (f := 352) (by kernel_rfl) (by rfl) ?_
  repeat' wtm_at "W"
  refine W_call (told_spec (d := 0) (hv.less (by omega)) R2 fun ta oa t1' t2' t3' lta TA => ?_)
  repeat' wtm_at "W"
  refine W_adds (by rw [sizeLine_eq]; show _ + 2 ≤ _; omega) fun _ => ?_
  repeat' wtm_at "W"
  refine W_adds (by rw [sizeLine_eq, str_append_len]; show _ + 2 + _ ≤ _; omega) fun _ => ?_
  repeat' wtm_at "W"
  refine W_join (T2.sub Sub.cons) SV (by show _ + _ * 0 ≤ _; omega) fun _ => ?_
  repeat' wtm_at "W"
  rename_i tb obb ltb TB
  rw [hr] at TA
  refine W_neTup (d := 0) (hv.less (by omega)) (TA.sub Sub.cons) TB ?_
  repeat' wtm_at "W"
  refine itF (by simp) ?_
  repeat' (first | ((with_reducible show W _ (execs _ _) _ _ _); exact c _ _ Z1 ⟨by wtm_at "L", by wtm_at "L", by wtm_at "L"⟩ ⟨_, by wtm_at "L"⟩ (((X2.mono (by omega)).sub Sub.cons).sub Sub.cons) ((T2.sub Sub.cons).sub Sub.cons)) | wtm_at "W")
end
section
variable {v : V} {l : Locs} {G Z : Led} {nm : Str} {sc : Scope} {d : Nat} {w : World} {p : WP} {b : Addr} {tk : Int} {ob : Addr} {no : Int} {cm : Int} {cA : Addr} {os : List Value} {kf : Flow → Locs → Led → Prop} {wr ax : Addr} {ws : List Value} {xs : List Str}
theorem law_bare (hw : v.w = w) (hv : Ok v "law" (fscope (topS 54)) 31) (X : LX w p b tk ob no cm cA os G Z) (hn : LN l p wr ax) (hg : ∃ t, l.lookup ("gone1" : Str) = some (.int tk t)) (T : IL G wr ws) (h1 : wr ∉ SL p b)
    (c : ∀ l' G' Z', LN l' p wr ax → (∃ t, l'.lookup ("gone1" : Str) = some (.int tk t)) → LX w p b tk ob no cm cA os G' Z' → IL G' wr ws → W v (execs (List.drop 11 (fbody (topS 54))) (v.env "law" (fscope (topS 54)))) l' G' kf) :
    W v (execs (List.drop 9 (fbody (topS 54))) (v.env "law" (fscope (topS 54)))) l G kf := by
  obtain ⟨n1, n2, n3⟩ := hn
  obtain ⟨tg, hg⟩ := hg
  refine W_Assign (x := "bare") ?_ (hs := by kernel_rfl)
  repeat' wtm_at "W"
  refine W_world hv X.L (f := 495) (by kernel_rfl) (by decide) ?_
  repeat' wtm_at "W"
  refine W_call (number_law (d := 0) (hv.less (by omega)) X.L fun n tn G1 L1 g1 => ?_)
  repeat' wtm_at "W"
  refine W_world hv L1 (f := 516) (by kernel_rfl) (by decide) ?_
  repeat' wtm_at "W"
  refine W_call (builtin_law (@bIndex _ (by decide)) (by decide) (by decide) hw (hv.less (by omega)) L1 fun m G2 Z2 L2 g2 M2 => ?_)
  repeat' wtm_at "W"
  refine err_new (d := 0) (mm := none) (hv.less (by omega)) L2 M2 rfl fun e G3 Z3 L3 g3 E3 => ?_
  have X3 := X.move L3 (g1.trans (g2.trans g3))
  have T3 := T.growS (g1.trans (g2.trans g3)) h1
  have E3' := E3.sub L3.zg
  repeat' wtm_at "W"
  refine W_call (raised_spec (d := 0) (hv.less (by omega)) E3' fun _ => ?_)
  repeat' (first | ((with_reducible show W _ (execs _ _) _ _ _); exact c _ G3 Z3 ⟨by wtm_at "L", by wtm_at "L", by wtm_at "L"⟩ ⟨_, by wtm_at "L"⟩ X3 T3) | wtm_at "W")
end
section
variable {v : V} {l : Locs} {G Z : Led} {nm : Str} {sc : Scope} {d : Nat} {w : World} {p : WP} {b : Addr} {tk : Int} {ob : Addr} {no : Int} {cm : Int} {cA : Addr} {os : List Value} {kf : Flow → Locs → Led → Prop} {wr ax : Addr} {ws : List Value} {xs : List Str}
theorem W_len_h0 {a : Addr} {vs : Array Value} {k : Value → Locs → Led → Prop} (T : v.h₀.IsList a vs) (hsz : vs.size ≤ 1000) (h : ∀ t, k (.int vs.size t) l G) : W v (call (.builtin "len") [.ref a]) l G k := fun s Q E F N c =>
  call_len_list (let ⟨o, ho, r⟩ := T; ⟨o, F.keep _ _ ho, r⟩) (by omega) (c _ l G s.heap _ (h _) F N)
theorem law_end (hv : Ok v "law" (fscope (topS 54)) 31) (c : ∀ l' G', kf (.ret (.bool true)) l' G') : W v (execs (List.drop 12 (fbody (topS 54))) (v.env "law" (fscope (topS 54)))) l G kf := by
  refine W_ret ?_
  repeat' wtm_at "W"
  refine result_new (hv.less (e := 0 + 2) (by omega)) fun x G2 s2 R2 => ?_
  obtain ⟨dx, t1, t2, t3, t4, R2'⟩ := id R2
  refine W_method hv R2' (f := 352) (by kernel_rfl) (by rfl) ?_
  repeat' wtm_at "W"
  refine W_call (told_spec (d := 0) (hv.less (by omega)) R2 fun ta oa t1' t2' t3' lta TA => ?_)
  repeat' wtm_at "W"
  rename_i tb obb ltb TB
  exact W_eqTup (d := 0) (hv.less (by omega)) (TA.sub Sub.cons) TB (c _ _)
theorem law_values {vs : Array Value} (hw : v.w = w) (hv : Ok v "law" (fscope (topS 54)) 31) (hcl : v.cl = [(("box" : Str), cA)]) (ha : v.h₀.IsList ax vs) (hz : vs.size ≤ 63) (X : LX w p b tk ob no 20 cA os G Z) (hn : LN l p wr ax) (hg : ∃ t, l.lookup ("gone1" : Str) = some (.int tk t)) (T : IL G wr ws) (SV : StrsV ws xs) (SO : StrsV os xs) (hl : (xs.map (·.length)).sum ≤ 1000) (h1 : wr ∉ SL p b)
    (c : ∀ l' G', kf (.ret (.bool true)) l' G') : W v (execs (List.drop 11 (fbody (topS 54))) (v.env "law" (fscope (topS 54)))) l G kf := by
  have hcell : v.cl.lookup ("box" : Str) = some cA := by rw [hcl]; rfl
  obtain ⟨n1, n2, n3⟩ := hn
  obtain ⟨tg, hg⟩ := hg
  refine W_For (nm := "law") (sc := fscope (topS 54)) ?_ hv (fun _ => by rfl)
  refine W_mono (k := fun x l1 G1 => l1 = l ∧ ∃ (n : Int) (r : Addr) (o : Obj), x = .ref r ∧ 0 ≤ n ∧ n ≤ 3 ∧ G1 = (r, o) :: G ∧ RG G1 r n) ?_ ?_
  · repeat' wtm_at "W"
    refine W_len_h0 ha (by omega) fun _ => ?_
    repeat' wtm_at "W"
    split
    · repeat' wtm_at "W"
      exact W_range1 fun r o lt RT => ⟨rfl, _, r, o, rfl, by decide, by decide, rfl, RT⟩
    · repeat' wtm_at "W"
      exact W_range1 fun r o lt RT => ⟨rfl, _, r, o, rfl, by decide, by decide, rfl, RT⟩
  rintro _ _ _ ⟨rfl, n, r, o, rfl, m0, m1, rfl, RT⟩
  refine W_iter_range hv RT (by omega) (by omega) fun I oI ltI TI => ?_
  have ltI1 : ∀ q ∈ G, q.1 < I := fun q hq => ltI q (.tail _ hq)
  have nI : I ∉ SL p b := X.L.nin ltI1
  refine ⟨I, _, _, _, fun i l' G' => LN l' p wr ax ∧ (∃ t, l'.lookup ("gone1" : Str) = some (.int tk t)) ∧ (∃ Z', LX w p b tk ob no (20 + 700 * i) cA os G' Z' ∧ ∀ q ∈ Z', q.1 ≠ I) ∧ IL G' wr ws, rfl, TI, ⟨⟨n1, n2, n3⟩, ⟨_, hg⟩, ⟨Z, ((X.sub Sub.cons).sub Sub.cons).mono (by omega), fun q hq => Nat.ne_of_lt (ltI1 q (X.L.zg q hq))⟩, (T.sub Sub.cons).sub Sub.cons⟩, ?_, ?_, ?_⟩
  · rintro i l1 Ga Gb ⟨a1, a2, ⟨Z', a3, a4⟩, a5⟩ bt
    exact ⟨a1, a2, ⟨Z', X.fresh ltI1 a3 bt a4, a4⟩, a5.but bt (let ⟨_, m, _⟩ := T; Nat.ne_of_lt (ltI1 _ m))⟩
  · rintro i a l1 Ga hi hP ⟨⟨a1, a2, a3⟩, ⟨t4, a4⟩, ⟨Za, Xa, za⟩, Ta⟩ TI'
    have e3 : TN 3 = 621 := by rfl
    obtain ⟨oB, mB, hB⟩ := Xa.ce
    refine W_asgName (W_store hv ?_ (by kernel_rfl))
    refine W_AssignTup ?_
    repeat' wtm_at "W"
    refine W_call (val3 hw (hv.less (by omega)) Xa.L (by omega) fun t ts u s G1 Z1 L1 g1 lt1 TT R => ?_)
    have X1 := Xa.move L1 g1
    have T1 := Ta.growS g1 h1
    have R' := R.sub L1.zg
    repeat' wtm_at "W"
    refine W_asgTupE hv TT ?_ (by rfl) (by rfl)
    refine W_order_cons (W_asgName (W_store hv ?_ (by kernel_rfl)))
    refine W_order_cons (W_asgName (W_store hv ?_ (by kernel_rfl)))
    refine W_order_nil ?_
    obtain ⟨tr, I1⟩ := X1.res
    repeat' wtm_at "W"
    refine W_call (result_of_value (d := 0) (hv.less (by omega)) I1 X1.ol.il SO hl R' fun x G2 s2 R2 => ?_)
    have X2 := X1.sub s2
    have T2 := T1.sub s2
    repeat' wtm_at "W"
    obtain ⟨dx, t1, t2, t3, t4, R2'⟩ := id R2
    refine W_method hv R2' (f := 352) (by kernel_rfl) (by rfl) ?_
    repeat' wtm_at "W"
    refine W_call (told_spec (d := 0) (hv.less (by omega)) R2 fun ta oa t1' t2' t3' lta TA => ?_)
    repeat' wtm_at "W"
    refine W_join (T2.sub Sub.cons) SV (by show _ + _ * 0 ≤ _; omega) fun _ => ?_
    repeat' wtm_at "W"
    rename_i tb obb ltb TB
    refine W_neTup (d := 0) (hv.less (by omega)) (TA.sub Sub.cons) TB ?_
    repeat' wtm_at "W"
    refine itF (by simp) ?_
    repeat' wtm_at "W"
    obtain ⟨oI', mI⟩ : ∃ o, (I, o) ∈ Ga := let ⟨_, _, _, h, _⟩ := TI'; h
    refine ⟨⟨⟨by wtm_at "L", by wtm_at "L", by wtm_at "L"⟩, ⟨_, by wtm_at "L"⟩, ⟨Z1, ((X2.mono (by omega)).sub Sub.cons).sub Sub.cons, fun q hq => ?_⟩, (T2.sub Sub.cons).sub Sub.cons⟩, (((TI'.grow g1 nI fun y hy => ?_).sub s2).sub Sub.cons).sub Sub.cons⟩
    · rcases g1.new q hq with h | h
      · exact za q h
      · exact Nat.ne_of_gt (h _ mI)
    · have : y = I := by simpa using hy
      subst this
      exact nI
  · rintro l1 Ga _
    exact law_end hv c
end
section
variable {v : V} {w : World}
theorem words_sum : ∀ {xs : List Str}, xs.length ≤ 3 → (∀ x ∈ xs, x ∈ wordL) → (xs.map (·.length)).sum ≤ 1000 := by
  intro xs h1 h2
  have : ∀ (xs : List Str), (∀ x ∈ xs, x ∈ wordL) → (xs.map (·.length)).sum ≤ 20 * xs.length := by
    intro xs
    induction xs with
    | nil => intro _; exact Nat.le_refl _
    | cons x r ih =>
      intro h
      have a := (word_facts x (h x (.head _))).1
      have b := ih fun y hy => h y (.tail _ hy)
      rw [List.map_cons, List.sum_cons, List.length_cons]
      omega
  have := this xs h2
  omega
theorem law_walk {ax cA : Addr} {oC : Obj} {vs : Array Value} {ns : List Int} {kf : Flow → Locs → Led → Prop} (hv : Ok v "law" (fscope (topS 54)) 31) (hcl : v.cl = [(("box" : Str), cA)]) (ho : oC.data = .cell none) (hl : v.h₀.IsList ax vs) (hi : IntsAre vs.toList ns) (hn : vs.size ≤ 63)
    (c : ∀ l' G', kf (.ret (.bool true)) l' G') : W v (execs (fbody (topS 54)) (v.env "law" (fscope (topS 54)))) [("script", .ref ax)] [(cA, oC)] kf :=
  law_init rfl hv hcl ho hl hi hn fun p b ob no G Z X hz =>
    law_comp rfl hv hcl X fun wr ws xs G1 X1 T1 SV hxl hx h1 h2 =>
      law_write rfl hv X1 hz ⟨by wtm_at "L", by wtm_at "L", by wtm_at "L"⟩ T1 SV (by rw [SV.length]; exact hxl) h1 h2 fun l2 G2 N2 X2 T2 =>
        law_tick rfl hv hcl X2 N2 T2 h1 fun l3 G3 tk t N3 g3 X3 T3 =>
          law_error_part rfl hv hcl X3 N3 ⟨t, g3⟩ T3 SV SV (words_sum hxl hx) h1 fun l4 G4 Z4 N4 g4 X4 T4 =>
            law_bare rfl hv X4 N4 g4 T4 h1 fun l5 G5 Z5 N5 g5 X5 T5 =>
              law_values rfl hv hcl hl hn X5 N5 g5 T5 SV SV (words_sum hxl hx) h1 c
end
theorem kf_770 (P) : (K P).lookup 770 = some (k770 P) := by kernel_rfl
theorem one_cell (n : Nat) : cellsFrom n (fscope (topS 54)).names [] = [(("box" : Str), n)] := by kernel_rfl
theorem top_law {w : World} {s : Shared} {ax : Addr} {R : Result → Shared → Prop} (X : (K w.params).In s.heap) (TR : ∃ p l mg mb, TopRead p l mg mb s.heap)
    (h : ∀ (v : V) cA o, Ok v "law" (fscope (topS 54)) 31 → v.h₀ = s.heap → v.cl = [(("box" : Str), cA)] → o.data = .cell none → W v (execs (fbody (topS 54)) (v.env "law" (fscope (topS 54)))) [("script", .ref ax)] [(cA, o)] fun fl _ _ => fl = .ret (.bool true))
    (fin : ∀ h' tk, (∀ b o, s.heap.get? b = some o → h'.get? b = some o) → R (.ok (.ret (.bool true))) { s with heap := h', toks := tk }) : codeAny (model pw w) callerA (.call (.ref 770) ⟨[.ref ax], []⟩) R s := by
  obtain ⟨p, ls, mg, mb, T⟩ := id TR
  have hlim : s.heap.NoLimit := T.nolimit
  refine codeAny_call_function (by decide) (X _ _ (kf_770 _)) rfl (by kernel_rfl) (by kernel_rfl) rfl (codeRec_of X (by kernel_rfl)) (kp_binds (binds := [("script", .ref ax)]) X (fun S => by kernel_rfl) _ _ _ _ ?_)
  refine wpAny_newFunctionEnv_cells (by kernel_rfl) (fun x hx => .inl ?_) fun env' he s' x => ?_
  · have : x = (("script" : Str), .ref ax) := by simpa using hx
    subst this
    kernel_rfl
  subst he
  refine ⟨hlim.keeps x.toInCall.keep, codeAny_func ?_⟩
  obtain ⟨h₁, tk, rfl, _⟩ := x.done
  have hk₁ := x.toInCall.keep
  have e1 := one_cell (s.heap.objs.size + 1)
  rw [e1] at x ⊢
  let v : V := ⟨w, callerA.deeper (envX "law" (fscope (topS 54)) s.heap.objs.size 770 (.ref 769) [(("box" : Str), s.heap.objs.size + 1)]), callerA, s.heap, [], s.heap, s.heap.objs.size, 770, .ref 769, [(("box" : Str), s.heap.objs.size + 1)]⟩
  have ok : Ok v "law" (fscope (topS 54)) 31 := ⟨below_caller _, Around.frames_deeper rfl, by kernel_rfl, X, TR, rfl, by show callerA.depth + 1 + 31 < recursionLimit; decide, by show callerA.units + 3 + 4 * 31 + 8 < cLine; decide⟩
  have hh : ∀ n ∈ ([(("script" : Str), (.ref ax : Value))]).map (·.1), (n = ("box" : Str) ∧ (v.env "law" (fscope (topS 54))).kindOf n = some .cell) ∨ (n ≠ ("box" : Str) ∧ (v.env "law" (fscope (topS 54))).kindOf n = some .local) := fun n hn => by
    have : n = "script" := by simpa using hn
    subst this
    exact .inr ⟨by decide, by kernel_rfl⟩
  obtain ⟨o, ho, hd⟩ : h₁.IsCell (s.heap.objs.size + 1) none := by
    have c := x.cell "box" (s.heap.objs.size + 1) (by kernel_rfl)
    have e : bindC (v.env "law" (fscope (topS 54))).kindOf [(("script" : Str), (.ref ax : Value))] (fun _ => none) "box" = none := bindCs_eq hh
    rw [← e]; exact c
  have hn : s.heap.get? (s.heap.objs.size + 1) = none := by
    cases q : s.heap.get? (s.heap.objs.size + 1) with
    | none => rfl
    | some o => exact absurd (Heap.lt_size q) (Nat.not_lt.mpr (Nat.le_succ _))
  have F : Fr v.h₀ v.L h₁ (ml [(("script" : Str), .ref ax)]) := by
    refine ⟨?_, hk₁, Nat.le_refl _⟩
    have e : bindL (v.env "law" (fscope (topS 54))).kindOf [(("script" : Str), (.ref ax : Value))] (ml []) = ml [(("script" : Str), .ref ax)] := bindLs_eq (sc := fscope (topS 54)) hh
    rw [← e]; exact x.toInCall.ns
  refine h v (s.heap.objs.size + 1) o ok rfl rfl hd { s with heap := h₁, toks := tk } _ _ F (fun q hq => ?_) fun fl l' G' h' tk' e F' N' => ?_
  · have : q = (s.heap.objs.size + 1, o) := by simpa using hq
    subst this
    exact ⟨ho, Nat.ne_of_gt (Nat.lt_succ_self _), hn⟩
  · subst e
    exact fin h' tk' F'.keep
theorem holds : R.Holds := finish fun w s₁ ax vs ns Q E X TR hl hi hn _ fin => by
  refine wpAny_call (top_law X TR (fun v cA o ok e0 hcl hd => ?_) fun h' tk hk => fin h' tk hk)
  have hs : vs.toArray.size ≤ 63 := by have := ints_size hi; omega
  exact law_walk ok hcl hd (by rw [e0]; exact hl) (by simpa using hi) hs fun _ _ => rfl
end
end Mine
theorem PySem.Challenge.cw_pq0507_01_holds : PySem.Challenge.rw_pq0507_01.Holds := by
  exact Mine.holds
