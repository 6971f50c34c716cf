import PyProof.Rows.All
import Wide.All
import OpenK.AllK
import Wide.FinOn
import PySem.Challenge.RW_qz0021_01
open PySem PySem.W PyProof.Rows PySem.Calls PySem.Spec
set_option Elab.async false
set_option linter.unusedVariables false
set_option maxRecDepth 100000
set_option maxHeartbeats 0
set_option genInjectivity false
set_option genSizeOf false
namespace Mine
local macro_rules | `(tactic| walk_at $s:str) => `(tactic| k_extra $s)
local macro_rules | `(tactic| ktr_room) => `(tactic| k_extra "rm")
local macro_rules | `(tactic| ktr_units) => `(tactic| k_extra "un")
local macro_rules | `(tactic| k_ne) => `(tactic| k_extra "ne")
local macro_rules | `(tactic| k_mem) => `(tactic| k_extra "km")
local macro_rules | `(tactic| k_get) => `(tactic| k_extra "kg")
local macro_rules | `(tactic| k_all) => `(tactic| k_extra "ka")
local macro_rules | `(tactic| lcg_off) => `(tactic| k_extra "lo")
local macro_rules | `(tactic| mul_fits) => `(tactic| k_extra "mf")
local macro_rules | `(tactic| k_lt $h) => `(tactic| (have hA := allLt_of $h; dsimp only [AllLt] at hA))

noncomputable def pickS (i : Nat) : Stmt := (PySem.Challenge.pw_qz0021_01.main.body)[i]?.getD (.Pass ⟨0, 0, 0, 0⟩)
noncomputable def subS (i j : Nat) : Stmt := match pickS i with
  | .ClassDef _ _ _ body _ _ _ _ _ _ _ => body[j]?.getD (.Pass ⟨0, 0, 0, 0⟩)
  | s => s
noncomputable abbrev fnO {n : Str} {ps : Arguments} {b : List Stmt} {ds : List PySem.Expr} {rs : Option PySem.Expr} {tp : List TypeParam} {sc : Scope} {ts : Option Scope} {bn : Str} {pos : Pos} (st : Stmt) (_h : st = .FunctionDef n ps b ds rs tp sc ts bn pos)
    (cls : Value) (dict : Option Addr) (qual : Str) (globals : Addr) (closure : List (Str × Addr)) (dV kV doc pm : Value) (an : Option Addr) (cd ct : Value) (bi : Addr) (sl : Array (Option Value)) : Obj :=
  ⟨cls, dict, .func ⟨n, qual, ps, .stmts b, sc, globals, closure, dV, kV, doc, pm, an, cd, ct, bi⟩, sl⟩

noncomputable def o11 : Obj := ⟨.type "tuple", none, .seq #[] 0, #[]⟩
noncomputable def o12 : Obj := ⟨.none, none, .fields #[], #[]⟩
noncomputable def o13 : Obj := ⟨.type "code", none, .fields #[.str "<module>" 182, .str "<module>" 183, .str "/claim/cut.py" 184, .int 1 0, .int 0 0, .int 0 0, .int 0 0, .int 0 0, .ref 11, .bool false, .int 181 0, .ref 12, .none, .none, .none, .none, .int 185 0, .int 1 0, .str "/claim/cut.py" 186], #[]⟩
noncomputable def o14 : Obj := ⟨.type "frame", none, .plain, #[(some (.ref 13)), (some (.ref 3)), (some (.ref 3)), none, (some (.str "__main__" 164)), none, (some (.ref 0))]⟩
noncomputable def o2 (P : Params) : Obj := ⟨.none, none, .dict #[⟨PyData.keyHash P "type.__subclasses__.Exception.0", .str "type.__subclasses__.Exception.0" 230, .int 47 0⟩, ⟨PyData.keyHash P "type.__subclasses__.Exception.n", .str "type.__subclasses__.Exception.n" 231, .int 1 0⟩] 2, #[]⟩
noncomputable def o3 (P : Params) : Obj := ⟨.type "dict", none, .dict #[⟨PyData.keyHash P "__name__", .str "__name__" 165, .str "minismt.terms" 337⟩, ⟨PyData.keyHash P "__doc__", .str "__doc__" 166, .none⟩, ⟨PyData.keyHash P "__package__", .str "__package__" 167, .none⟩, ⟨PyData.keyHash P "__loader__", .str "__loader__" 168, .builtin "__main__.__loader__#opaque"⟩, ⟨PyData.keyHash P "__spec__", .str "__spec__" 169, .none⟩, ⟨PyData.keyHash P "__annotations__", .str "__annotations__" 170, .ref 6⟩, ⟨PyData.keyHash P "__builtins__", .str "__builtins__" 171, .ref 4⟩, ⟨PyData.keyHash P "__file__", .str "__file__" 173, .str "/claim/cut.py" 172⟩, ⟨PyData.keyHash P "__cached__", .str "__cached__" 174, .none⟩, ⟨PyData.keyHash P "_wall", .str "_wall" 193, .ref 21⟩, ⟨PyData.keyHash P "SmtError", .str "SmtError" 233, .ref 47⟩, ⟨PyData.keyHash P "SortFault", .str "SortFault" 256, .ref 67⟩, ⟨PyData.keyHash P "LimitFault", .str "LimitFault" 279, .ref 86⟩, ⟨PyData.keyHash P "ModelFault", .str "ModelFault" 302, .ref 105⟩, ⟨PyData.keyHash P "gcd_of", .str "gcd_of" 312, .ref 114⟩, ⟨PyData.keyHash P "ratio", .str "ratio" 321, .ref 121⟩, ⟨PyData.keyHash P "mul", .str "mul" 329, .ref 128⟩, ⟨PyData.keyHash P "is_whole", .str "is_whole" 336, .ref 135⟩, ⟨PyData.keyHash P "mask_of", .str "mask_of" 345, .ref 142⟩, ⟨PyData.keyHash P "signed_of", .str "signed_of" 353, .ref 149⟩, ⟨PyData.keyHash P "one_value", .str "one_value" 362, .ref 156⟩] 21, #[]⟩
noncomputable def o12_1 : Obj := ⟨.none, none, .fields #[.int 1 0, .int 0 0, .ref 20, .int 5 0, .int 0 0, .ref 28, .int 13 0, .int 0 0, .ref 56, .int 17 0, .int 0 0, .ref 75, .int 21 0, .int 0 0, .ref 94, .int 26 0, .int 0 0, .ref 113, .int 31 0, .int 0 0, .ref 120, .int 38 0, .int 0 0, .ref 127, .int 42 0, .int 0 0, .ref 134, .int 45 0, .int 0 0, .ref 141, .int 47 0, .int 0 0, .ref 148, .int 49 0, .int 0 0, .ref 155], #[]⟩
noncomputable def o15 : Obj := ⟨.type "tuple", none, .seq #[] 0, #[]⟩
noncomputable def o16 : Obj := ⟨.none, none, .fields #[], #[]⟩
noncomputable def o17 : Obj := ⟨.type "tuple", none, .seq #[.str "k" 190] 0, #[]⟩
noncomputable def o18 : Obj := ⟨.type "tuple", none, .seq #[] 0, #[]⟩
noncomputable def o19 : Obj := fnO (pickS 0) rfl .none none "_wall" 0 [] .none .none .none .none none .none .none 0 #[]
noncomputable def o20 : Obj := ⟨.type "code", none, .fields #[.str "_wall" 187, .str "_wall" 188, .str "/claim/cut.py" 189, .int 1 0, .int 1 0, .int 0 0, .int 0 0, .int 3 0, .ref 15, .bool true, .int 181 0, .ref 16, .none, .ref 17, .ref 18, .ref 19, .int 191 0, .int 1 0, .str "/claim/cut.py" 192], #[]⟩
noncomputable def o21 : Obj := fnO (pickS 0) rfl (.type "function") none "_wall" 3 [] .none .none .none (.str "__main__" 164) none (.ref 20) .none 0 #[]
noncomputable def o22 : Obj := ⟨.type "tuple", none, .seq #[.type "Exception"] 0, #[]⟩
noncomputable def o23 : Obj := ⟨.type "builtin_function_or_method", none, .fields #[.builtin "type.__prepare__", .type "type"], #[]⟩
noncomputable def o24 (P : Params) : Obj := ⟨.type "dict", none, .dict #[⟨PyData.keyHash P "__module__", .str "__module__" 203, .str "minismt.errors" 194⟩, ⟨PyData.keyHash P "__qualname__", .str "__qualname__" 205, .str "SmtError" 204⟩, ⟨PyData.keyHash P "__firstlineno__", .str "__firstlineno__" 207, .int 5 206⟩, ⟨PyData.keyHash P "__init__", .str "__init__" 216, .ref 37⟩, ⟨PyData.keyHash P "told", .str "told" 223, .ref 44⟩, ⟨PyData.keyHash P "__static_attributes__", .str "__static_attributes__" 225, .ref 45⟩, ⟨PyData.keyHash P "__classcell__", .str "__classcell__" 226, .ref 25⟩] 7, #[]⟩
noncomputable def o25 : Obj := ⟨.type "cell", none, (.cell (some (.ref 47))), #[]⟩
noncomputable def o26 : Obj := ⟨.type "tuple", none, .seq #[] 0, #[]⟩
noncomputable def o27 : Obj := ⟨.none, none, .fields #[.int 7 0, .int 4 0, .ref 36, .int 11 0, .int 4 0, .ref 43], #[]⟩
noncomputable def o28 : Obj := ⟨.type "code", none, .fields #[.str "SmtError" 198, .str "SmtError" 199, .str "/claim/cut.py" 200, .int 5 0, .int 0 0, .int 0 0, .int 0 0, .int 0 0, .ref 26, .bool false, .int 181 0, .ref 27, .none, .none, .none, .none, .int 201 0, .int 5 0, .str "/claim/cut.py" 202], #[]⟩
noncomputable def o29 : Obj := ⟨.type "frame", none, .plain, #[(some (.ref 28)), (some (.ref 3)), (some (.ref 24)), none, (some (.str "minismt.errors" 194)), none, (some (.ref 0))]⟩
noncomputable def o30 : Obj := ⟨.type "tuple", none, .seq #[.ref 25] 0, #[]⟩
noncomputable def o31 : Obj := ⟨.type "tuple", none, .seq #[.str "__class__" 211] 0, #[]⟩
noncomputable def o32 : Obj := ⟨.none, none, .fields #[], #[]⟩
noncomputable def o33 : Obj := ⟨.type "tuple", none, .seq #[.str "self" 212, .str "what" 213] 0, #[]⟩
noncomputable def o34 : Obj := ⟨.type "tuple", none, .seq #[] 0, #[]⟩
noncomputable def o35 : Obj := fnO (subS 2 0) rfl .none none "SmtError.__init__" 0 [] .none .none .none .none none .none .none 0 #[]
noncomputable def o36 : Obj := ⟨.type "code", none, .fields #[.str "__init__" 208, .str "SmtError.__init__" 209, .str "/claim/cut.py" 210, .int 7 0, .int 2 0, .int 0 0, .int 0 0, .int 3 0, .ref 31, .bool true, .int 181 0, .ref 32, .none, .ref 33, .ref 34, .ref 35, .int 214 0, .int 7 0, .str "/claim/cut.py" 215], #[]⟩
noncomputable def o37 : Obj := fnO (subS 2 0) rfl (.type "function") none "SmtError.__init__" 3 [("__class__", 25)] .none .none .none (.str "minismt.errors" 194) none (.ref 36) (.ref 30) 0 #[]
noncomputable def o38 : Obj := ⟨.type "tuple", none, .seq #[] 0, #[]⟩
noncomputable def o39 : Obj := ⟨.none, none, .fields #[], #[]⟩
noncomputable def o40 : Obj := ⟨.type "tuple", none, .seq #[.str "self" 220] 0, #[]⟩
noncomputable def o41 : Obj := ⟨.type "tuple", none, .seq #[] 0, #[]⟩
noncomputable def o42 : Obj := fnO (subS 2 1) rfl .none none "SmtError.told" 0 [] .none .none .none .none none .none .none 0 #[]
noncomputable def o43 : Obj := ⟨.type "code", none, .fields #[.str "told" 217, .str "SmtError.told" 218, .str "/claim/cut.py" 219, .int 11 0, .int 1 0, .int 0 0, .int 0 0, .int 3 0, .ref 38, .bool true, .int 181 0, .ref 39, .none, .ref 40, .ref 41, .ref 42, .int 221 0, .int 11 0, .str "/claim/cut.py" 222], #[]⟩
noncomputable def o44 : Obj := fnO (subS 2 1) rfl (.type "function") none "SmtError.told" 3 [] .none .none .none (.str "minismt.errors" 194) none (.ref 43) .none 0 #[]
noncomputable def o45 : Obj := ⟨.type "tuple", none, .seq #[.str "what" 224] 0, #[]⟩
noncomputable def o46 (P : Params) : Obj := ⟨.type "dict", none, .dict #[⟨PyData.keyHash P "__module__", .str "__module__" 203, .str "minismt.errors" 194⟩, ⟨PyData.keyHash P "__firstlineno__", .str "__firstlineno__" 207, .int 5 206⟩, ⟨PyData.keyHash P "__init__", .str "__init__" 216, .ref 37⟩, ⟨PyData.keyHash P "told", .str "told" 223, .ref 44⟩, ⟨PyData.keyHash P "__static_attributes__", .str "__static_attributes__" 225, .ref 45⟩, ⟨PyData.keyHash P "__weakref__", .str "__weakref__" 228, .ref 48⟩, ⟨PyData.keyHash P "__doc__", .str "__doc__" 229, .none⟩] 4, #[]⟩
noncomputable def o47 : Obj := ⟨.type "type", none, .cls ⟨"SmtError", [.type "Exception"], [.ref 47, .type "Exception", .type "BaseException", .type "object"], 46, "SmtError", true, [], [.ref 67, .ref 86, .ref 105], false, none, false⟩, #[(some (.ref 22)), none, (some (.str "SmtError" 196)), (some (.str "SmtError" 204)), (some (.builtin "Exception.__new__")), (some (.bool true))]⟩
noncomputable def o48 : Obj := ⟨.type "getset_descriptor", none, .fields #[.str "__weakref__" 227, .ref 47, .builtin "ExceptionGroup.__weakref__", .none], #[]⟩
noncomputable def o49 : Obj := ⟨.type "super", none, .fields #[.ref 47, .ref 47, .ref 47], #[]⟩
noncomputable def o50 : Obj := ⟨.type "builtin_function_or_method", none, .fields #[.builtin "object.__init_subclass__", .ref 47], #[]⟩
noncomputable def o51 : Obj := ⟨.type "tuple", none, .seq #[.ref 47] 0, #[]⟩
noncomputable def o52 : Obj := ⟨.type "builtin_function_or_method", none, .fields #[.builtin "type.__prepare__", .type "type"], #[]⟩
noncomputable def o53 (P : Params) : Obj := ⟨.type "dict", none, .dict #[⟨PyData.keyHash P "__module__", .str "__module__" 241, .str "minismt.errors" 194⟩, ⟨PyData.keyHash P "__qualname__", .str "__qualname__" 243, .str "SortFault" 242⟩, ⟨PyData.keyHash P "__firstlineno__", .str "__firstlineno__" 245, .int 13 244⟩, ⟨PyData.keyHash P "told", .str "told" 252, .ref 64⟩, ⟨PyData.keyHash P "__static_attributes__", .str "__static_attributes__" 253, .ref 65⟩] 5, #[]⟩
noncomputable def o54 : Obj := ⟨.type "tuple", none, .seq #[] 0, #[]⟩
noncomputable def o55 : Obj := ⟨.none, none, .fields #[.int 15 0, .int 4 0, .ref 63], #[]⟩
noncomputable def o56 : Obj := ⟨.type "code", none, .fields #[.str "SortFault" 236, .str "SortFault" 237, .str "/claim/cut.py" 238, .int 13 0, .int 0 0, .int 0 0, .int 0 0, .int 0 0, .ref 54, .bool false, .int 181 0, .ref 55, .none, .none, .none, .none, .int 239 0, .int 13 0, .str "/claim/cut.py" 240], #[]⟩
noncomputable def o57 : Obj := ⟨.type "frame", none, .plain, #[(some (.ref 56)), (some (.ref 3)), (some (.ref 53)), none, (some (.str "minismt.errors" 194)), none, (some (.ref 0))]⟩
noncomputable def o58 : Obj := ⟨.type "tuple", none, .seq #[] 0, #[]⟩
noncomputable def o59 : Obj := ⟨.none, none, .fields #[], #[]⟩
noncomputable def o60 : Obj := ⟨.type "tuple", none, .seq #[.str "self" 249] 0, #[]⟩
noncomputable def o61 : Obj := ⟨.type "tuple", none, .seq #[] 0, #[]⟩
noncomputable def o62 : Obj := fnO (subS 3 0) rfl .none none "SortFault.told" 0 [] .none .none .none .none none .none .none 0 #[]
noncomputable def o63 : Obj := ⟨.type "code", none, .fields #[.str "told" 246, .str "SortFault.told" 247, .str "/claim/cut.py" 248, .int 15 0, .int 1 0, .int 0 0, .int 0 0, .int 3 0, .ref 58, .bool true, .int 181 0, .ref 59, .none, .ref 60, .ref 61, .ref 62, .int 250 0, .int 15 0, .str "/claim/cut.py" 251], #[]⟩
noncomputable def o64 : Obj := fnO (subS 3 0) rfl (.type "function") none "SortFault.told" 3 [] .none .none .none (.str "minismt.errors" 194) none (.ref 63) .none 0 #[]
noncomputable def o65 : Obj := ⟨.type "tuple", none, .seq #[] 0, #[]⟩
noncomputable def o66 (P : Params) : Obj := ⟨.type "dict", none, .dict #[⟨PyData.keyHash P "__module__", .str "__module__" 241, .str "minismt.errors" 194⟩, ⟨PyData.keyHash P "__firstlineno__", .str "__firstlineno__" 245, .int 13 244⟩, ⟨PyData.keyHash P "told", .str "told" 252, .ref 64⟩, ⟨PyData.keyHash P "__static_attributes__", .str "__static_attributes__" 253, .ref 65⟩, ⟨PyData.keyHash P "__doc__", .str "__doc__" 254, .none⟩] 2, #[]⟩
noncomputable def o67 : Obj := ⟨.type "type", none, .cls ⟨"SortFault", [.ref 47], [.ref 67, .ref 47, .type "Exception", .type "BaseException", .type "object"], 66, "SortFault", true, [], [], false, none, false⟩, #[(some (.ref 51)), none, (some (.str "SortFault" 234)), (some (.str "SortFault" 242)), (some (.builtin "Exception.__new__")), (some (.bool true))]⟩
noncomputable def o68 : Obj := ⟨.type "super", none, .fields #[.ref 67, .ref 67, .ref 67], #[]⟩
noncomputable def o69 : Obj := ⟨.type "builtin_function_or_method", none, .fields #[.builtin "object.__init_subclass__", .ref 67], #[]⟩
noncomputable def o70 : Obj := ⟨.type "tuple", none, .seq #[.ref 47] 0, #[]⟩
noncomputable def o71 : Obj := ⟨.type "builtin_function_or_method", none, .fields #[.builtin "type.__prepare__", .type "type"], #[]⟩
noncomputable def o72 (P : Params) : Obj := ⟨.type "dict", none, .dict #[⟨PyData.keyHash P "__module__", .str "__module__" 264, .str "minismt.errors" 194⟩, ⟨PyData.keyHash P "__qualname__", .str "__qualname__" 266, .str "LimitFault" 265⟩, ⟨PyData.keyHash P "__firstlineno__", .str "__firstlineno__" 268, .int 17 267⟩, ⟨PyData.keyHash P "told", .str "told" 275, .ref 83⟩, ⟨PyData.keyHash P "__static_attributes__", .str "__static_attributes__" 276, .ref 84⟩] 5, #[]⟩
noncomputable def o73 : Obj := ⟨.type "tuple", none, .seq #[] 0, #[]⟩
noncomputable def o74 : Obj := ⟨.none, none, .fields #[.int 19 0, .int 4 0, .ref 82], #[]⟩
noncomputable def o75 : Obj := ⟨.type "code", none, .fields #[.str "LimitFault" 259, .str "LimitFault" 260, .str "/claim/cut.py" 261, .int 17 0, .int 0 0, .int 0 0, .int 0 0, .int 0 0, .ref 73, .bool false, .int 181 0, .ref 74, .none, .none, .none, .none, .int 262 0, .int 17 0, .str "/claim/cut.py" 263], #[]⟩
noncomputable def o76 : Obj := ⟨.type "frame", none, .plain, #[(some (.ref 75)), (some (.ref 3)), (some (.ref 72)), none, (some (.str "minismt.errors" 194)), none, (some (.ref 0))]⟩
noncomputable def o77 : Obj := ⟨.type "tuple", none, .seq #[] 0, #[]⟩
noncomputable def o78 : Obj := ⟨.none, none, .fields #[], #[]⟩
noncomputable def o79 : Obj := ⟨.type "tuple", none, .seq #[.str "self" 272] 0, #[]⟩
noncomputable def o80 : Obj := ⟨.type "tuple", none, .seq #[] 0, #[]⟩
noncomputable def o81 : Obj := fnO (subS 4 0) rfl .none none "LimitFault.told" 0 [] .none .none .none .none none .none .none 0 #[]
noncomputable def o82 : Obj := ⟨.type "code", none, .fields #[.str "told" 269, .str "LimitFault.told" 270, .str "/claim/cut.py" 271, .int 19 0, .int 1 0, .int 0 0, .int 0 0, .int 3 0, .ref 77, .bool true, .int 181 0, .ref 78, .none, .ref 79, .ref 80, .ref 81, .int 273 0, .int 19 0, .str "/claim/cut.py" 274], #[]⟩
noncomputable def o83 : Obj := fnO (subS 4 0) rfl (.type "function") none "LimitFault.told" 3 [] .none .none .none (.str "minismt.errors" 194) none (.ref 82) .none 0 #[]
noncomputable def o84 : Obj := ⟨.type "tuple", none, .seq #[] 0, #[]⟩
noncomputable def o85 (P : Params) : Obj := ⟨.type "dict", none, .dict #[⟨PyData.keyHash P "__module__", .str "__module__" 264, .str "minismt.errors" 194⟩, ⟨PyData.keyHash P "__firstlineno__", .str "__firstlineno__" 268, .int 17 267⟩, ⟨PyData.keyHash P "told", .str "told" 275, .ref 83⟩, ⟨PyData.keyHash P "__static_attributes__", .str "__static_attributes__" 276, .ref 84⟩, ⟨PyData.keyHash P "__doc__", .str "__doc__" 277, .none⟩] 2, #[]⟩
noncomputable def o86 : Obj := ⟨.type "type", none, .cls ⟨"LimitFault", [.ref 47], [.ref 86, .ref 47, .type "Exception", .type "BaseException", .type "object"], 85, "LimitFault", true, [], [], false, none, false⟩, #[(some (.ref 70)), none, (some (.str "LimitFault" 257)), (some (.str "LimitFault" 265)), (some (.builtin "Exception.__new__")), (some (.bool true))]⟩
noncomputable def o87 : Obj := ⟨.type "super", none, .fields #[.ref 86, .ref 86, .ref 86], #[]⟩
noncomputable def o88 : Obj := ⟨.type "builtin_function_or_method", none, .fields #[.builtin "object.__init_subclass__", .ref 86], #[]⟩
noncomputable def o89 : Obj := ⟨.type "tuple", none, .seq #[.ref 47] 0, #[]⟩
noncomputable def o90 : Obj := ⟨.type "builtin_function_or_method", none, .fields #[.builtin "type.__prepare__", .type "type"], #[]⟩
noncomputable def o91 (P : Params) : Obj := ⟨.type "dict", none, .dict #[⟨PyData.keyHash P "__module__", .str "__module__" 287, .str "minismt.errors" 194⟩, ⟨PyData.keyHash P "__qualname__", .str "__qualname__" 289, .str "ModelFault" 288⟩, ⟨PyData.keyHash P "__firstlineno__", .str "__firstlineno__" 291, .int 21 290⟩, ⟨PyData.keyHash P "told", .str "told" 298, .ref 102⟩, ⟨PyData.keyHash P "__static_attributes__", .str "__static_attributes__" 299, .ref 103⟩] 5, #[]⟩
noncomputable def o92 : Obj := ⟨.type "tuple", none, .seq #[] 0, #[]⟩
noncomputable def o93 : Obj := ⟨.none, none, .fields #[.int 23 0, .int 4 0, .ref 101], #[]⟩
noncomputable def o94 : Obj := ⟨.type "code", none, .fields #[.str "ModelFault" 282, .str "ModelFault" 283, .str "/claim/cut.py" 284, .int 21 0, .int 0 0, .int 0 0, .int 0 0, .int 0 0, .ref 92, .bool false, .int 181 0, .ref 93, .none, .none, .none, .none, .int 285 0, .int 21 0, .str "/claim/cut.py" 286], #[]⟩
noncomputable def o95 : Obj := ⟨.type "frame", none, .plain, #[(some (.ref 94)), (some (.ref 3)), (some (.ref 91)), none, (some (.str "minismt.errors" 194)), none, (some (.ref 0))]⟩
noncomputable def o96 : Obj := ⟨.type "tuple", none, .seq #[] 0, #[]⟩
noncomputable def o97 : Obj := ⟨.none, none, .fields #[], #[]⟩
noncomputable def o98 : Obj := ⟨.type "tuple", none, .seq #[.str "self" 295] 0, #[]⟩
noncomputable def o99 : Obj := ⟨.type "tuple", none, .seq #[] 0, #[]⟩
noncomputable def o100 : Obj := fnO (subS 5 0) rfl .none none "ModelFault.told" 0 [] .none .none .none .none none .none .none 0 #[]
noncomputable def o101 : Obj := ⟨.type "code", none, .fields #[.str "told" 292, .str "ModelFault.told" 293, .str "/claim/cut.py" 294, .int 23 0, .int 1 0, .int 0 0, .int 0 0, .int 3 0, .ref 96, .bool true, .int 181 0, .ref 97, .none, .ref 98, .ref 99, .ref 100, .int 296 0, .int 23 0, .str "/claim/cut.py" 297], #[]⟩
noncomputable def o102 : Obj := fnO (subS 5 0) rfl (.type "function") none "ModelFault.told" 3 [] .none .none .none (.str "minismt.errors" 194) none (.ref 101) .none 0 #[]
noncomputable def o103 : Obj := ⟨.type "tuple", none, .seq #[] 0, #[]⟩
noncomputable def o104 (P : Params) : Obj := ⟨.type "dict", none, .dict #[⟨PyData.keyHash P "__module__", .str "__module__" 287, .str "minismt.errors" 194⟩, ⟨PyData.keyHash P "__firstlineno__", .str "__firstlineno__" 291, .int 21 290⟩, ⟨PyData.keyHash P "told", .str "told" 298, .ref 102⟩, ⟨PyData.keyHash P "__static_attributes__", .str "__static_attributes__" 299, .ref 103⟩, ⟨PyData.keyHash P "__doc__", .str "__doc__" 300, .none⟩] 2, #[]⟩
noncomputable def o105 : Obj := ⟨.type "type", none, .cls ⟨"ModelFault", [.ref 47], [.ref 105, .ref 47, .type "Exception", .type "BaseException", .type "object"], 104, "ModelFault", true, [], [], false, none, false⟩, #[(some (.ref 89)), none, (some (.str "ModelFault" 280)), (some (.str "ModelFault" 288)), (some (.builtin "Exception.__new__")), (some (.bool true))]⟩
noncomputable def o106 : Obj := ⟨.type "super", none, .fields #[.ref 105, .ref 105, .ref 105], #[]⟩
noncomputable def o107 : Obj := ⟨.type "builtin_function_or_method", none, .fields #[.builtin "object.__init_subclass__", .ref 105], #[]⟩
noncomputable def o108 : Obj := ⟨.type "tuple", none, .seq #[] 0, #[]⟩
noncomputable def o109 : Obj := ⟨.none, none, .fields #[], #[]⟩
noncomputable def o110 : Obj := ⟨.type "tuple", none, .seq #[.str "a" 308, .str "b" 309] 0, #[]⟩
noncomputable def o111 : Obj := ⟨.type "tuple", none, .seq #[] 0, #[]⟩
noncomputable def o112 : Obj := fnO (pickS 7) rfl .none none "gcd_of" 0 [] .none .none .none .none none .none .none 0 #[]
noncomputable def o113 : Obj := ⟨.type "code", none, .fields #[.str "gcd_of" 305, .str "gcd_of" 306, .str "/claim/cut.py" 307, .int 26 0, .int 2 0, .int 0 0, .int 0 0, .int 3 0, .ref 108, .bool true, .int 181 0, .ref 109, .none, .ref 110, .ref 111, .ref 112, .int 310 0, .int 26 0, .str "/claim/cut.py" 311], #[]⟩
noncomputable def o114 : Obj := fnO (pickS 7) rfl (.type "function") none "gcd_of" 3 [] .none .none .none (.str "minismt.ratios" 303) none (.ref 113) .none 0 #[]
noncomputable def o115 : Obj := ⟨.type "tuple", none, .seq #[] 0, #[]⟩
noncomputable def o116 : Obj := ⟨.none, none, .fields #[], #[]⟩
noncomputable def o117 : Obj := ⟨.type "tuple", none, .seq #[.str "top" 316, .str "bottom" 317, .str "common" 318] 0, #[]⟩
noncomputable def o118 : Obj := ⟨.type "tuple", none, .seq #[] 0, #[]⟩
noncomputable def o119 : Obj := fnO (pickS 8) rfl .none none "ratio" 0 [] .none .none .none .none none .none .none 0 #[]
noncomputable def o120 : Obj := ⟨.type "code", none, .fields #[.str "ratio" 313, .str "ratio" 314, .str "/claim/cut.py" 315, .int 31 0, .int 2 0, .int 0 0, .int 0 0, .int 3 0, .ref 115, .bool true, .int 181 0, .ref 116, .none, .ref 117, .ref 118, .ref 119, .int 319 0, .int 31 0, .str "/claim/cut.py" 320], #[]⟩
noncomputable def o121 : Obj := fnO (pickS 8) rfl (.type "function") none "ratio" 3 [] .none .none .none (.str "minismt.ratios" 303) none (.ref 120) .none 0 #[]
noncomputable def o122 : Obj := ⟨.type "tuple", none, .seq #[] 0, #[]⟩
noncomputable def o123 : Obj := ⟨.none, none, .fields #[], #[]⟩
noncomputable def o124 : Obj := ⟨.type "tuple", none, .seq #[.str "a" 325, .str "b" 326] 0, #[]⟩
noncomputable def o125 : Obj := ⟨.type "tuple", none, .seq #[] 0, #[]⟩
noncomputable def o126 : Obj := fnO (pickS 9) rfl .none none "mul" 0 [] .none .none .none .none none .none .none 0 #[]
noncomputable def o127 : Obj := ⟨.type "code", none, .fields #[.str "mul" 322, .str "mul" 323, .str "/claim/cut.py" 324, .int 38 0, .int 2 0, .int 0 0, .int 0 0, .int 3 0, .ref 122, .bool true, .int 181 0, .ref 123, .none, .ref 124, .ref 125, .ref 126, .int 327 0, .int 38 0, .str "/claim/cut.py" 328], #[]⟩
noncomputable def o128 : Obj := fnO (pickS 9) rfl (.type "function") none "mul" 3 [] .none .none .none (.str "minismt.ratios" 303) none (.ref 127) .none 0 #[]
noncomputable def o129 : Obj := ⟨.type "tuple", none, .seq #[] 0, #[]⟩
noncomputable def o130 : Obj := ⟨.none, none, .fields #[], #[]⟩
noncomputable def o131 : Obj := ⟨.type "tuple", none, .seq #[.str "a" 333] 0, #[]⟩
noncomputable def o132 : Obj := ⟨.type "tuple", none, .seq #[] 0, #[]⟩
noncomputable def o133 : Obj := fnO (pickS 10) rfl .none none "is_whole" 0 [] .none .none .none .none none .none .none 0 #[]
noncomputable def o134 : Obj := ⟨.type "code", none, .fields #[.str "is_whole" 330, .str "is_whole" 331, .str "/claim/cut.py" 332, .int 42 0, .int 1 0, .int 0 0, .int 0 0, .int 3 0, .ref 129, .bool true, .int 181 0, .ref 130, .none, .ref 131, .ref 132, .ref 133, .int 334 0, .int 42 0, .str "/claim/cut.py" 335], #[]⟩
noncomputable def o135 : Obj := fnO (pickS 10) rfl (.type "function") none "is_whole" 3 [] .none .none .none (.str "minismt.ratios" 303) none (.ref 134) .none 0 #[]
noncomputable def o136 : Obj := ⟨.type "tuple", none, .seq #[] 0, #[]⟩
noncomputable def o137 : Obj := ⟨.none, none, .fields #[], #[]⟩
noncomputable def o138 : Obj := ⟨.type "tuple", none, .seq #[.str "width" 342] 0, #[]⟩
noncomputable def o139 : Obj := ⟨.type "tuple", none, .seq #[] 0, #[]⟩
noncomputable def o140 : Obj := fnO (pickS 12) rfl .none none "mask_of" 0 [] .none .none .none .none none .none .none 0 #[]
noncomputable def o141 : Obj := ⟨.type "code", none, .fields #[.str "mask_of" 339, .str "mask_of" 340, .str "/claim/cut.py" 341, .int 45 0, .int 1 0, .int 0 0, .int 0 0, .int 3 0, .ref 136, .bool true, .int 181 0, .ref 137, .none, .ref 138, .ref 139, .ref 140, .int 343 0, .int 45 0, .str "/claim/cut.py" 344], #[]⟩
noncomputable def o142 : Obj := fnO (pickS 12) rfl (.type "function") none "mask_of" 3 [] .none .none .none (.str "minismt.terms" 337) none (.ref 141) .none 0 #[]
noncomputable def o143 : Obj := ⟨.type "tuple", none, .seq #[] 0, #[]⟩
noncomputable def o144 : Obj := ⟨.none, none, .fields #[], #[]⟩
noncomputable def o145 : Obj := ⟨.type "tuple", none, .seq #[.str "x" 349, .str "width" 350] 0, #[]⟩
noncomputable def o146 : Obj := ⟨.type "tuple", none, .seq #[] 0, #[]⟩
noncomputable def o147 : Obj := fnO (pickS 13) rfl .none none "signed_of" 0 [] .none .none .none .none none .none .none 0 #[]
noncomputable def o148 : Obj := ⟨.type "code", none, .fields #[.str "signed_of" 346, .str "signed_of" 347, .str "/claim/cut.py" 348, .int 47 0, .int 2 0, .int 0 0, .int 0 0, .int 3 0, .ref 143, .bool true, .int 181 0, .ref 144, .none, .ref 145, .ref 146, .ref 147, .int 351 0, .int 47 0, .str "/claim/cut.py" 352], #[]⟩
noncomputable def o149 : Obj := fnO (pickS 13) rfl (.type "function") none "signed_of" 3 [] .none .none .none (.str "minismt.terms" 337) none (.ref 148) .none 0 #[]
noncomputable def o150 : Obj := ⟨.type "tuple", none, .seq #[] 0, #[]⟩
noncomputable def o151 : Obj := ⟨.none, none, .fields #[], #[]⟩
noncomputable def o152 : Obj := ⟨.type "tuple", none, .seq #[.str "op" 357, .str "x" 358, .str "width" 359] 0, #[]⟩
noncomputable def o153 : Obj := ⟨.type "tuple", none, .seq #[] 0, #[]⟩
noncomputable def o154 : Obj := fnO (pickS 14) rfl .none none "one_value" 0 [] .none .none .none .none none .none .none 0 #[]
noncomputable def o155 : Obj := ⟨.type "code", none, .fields #[.str "one_value" 354, .str "one_value" 355, .str "/claim/cut.py" 356, .int 49 0, .int 3 0, .int 0 0, .int 0 0, .int 3 0, .ref 150, .bool true, .int 181 0, .ref 151, .none, .ref 152, .ref 153, .ref 154, .int 360 0, .int 49 0, .str "/claim/cut.py" 361], #[]⟩
noncomputable def o156 : Obj := fnO (pickS 14) rfl (.type "function") none "one_value" 3 [] .none .none .none (.str "minismt.terms" 337) none (.ref 155) .none 0 #[]
noncomputable def o3_1 (P : Params) : Obj := ⟨.type "dict", none, .dict #[⟨PyData.keyHash P "__name__", .str "__name__" 165, .str "minismt.terms" 337⟩, ⟨PyData.keyHash P "__doc__", .str "__doc__" 166, .none⟩, ⟨PyData.keyHash P "__package__", .str "__package__" 167, .none⟩, ⟨PyData.keyHash P "__loader__", .str "__loader__" 168, .builtin "__main__.__loader__#opaque"⟩, ⟨PyData.keyHash P "__spec__", .str "__spec__" 169, .none⟩, ⟨PyData.keyHash P "__annotations__", .str "__annotations__" 170, .ref 6⟩, ⟨PyData.keyHash P "__builtins__", .str "__builtins__" 171, .ref 4⟩, ⟨PyData.keyHash P "__file__", .str "__file__" 173, .str "/claim/cut.py" 172⟩, ⟨PyData.keyHash P "__cached__", .str "__cached__" 174, .none⟩, ⟨PyData.keyHash P "_wall", .str "_wall" 193, .ref 21⟩, ⟨PyData.keyHash P "SmtError", .str "SmtError" 233, .ref 47⟩, ⟨PyData.keyHash P "SortFault", .str "SortFault" 256, .ref 67⟩, ⟨PyData.keyHash P "LimitFault", .str "LimitFault" 279, .ref 86⟩, ⟨PyData.keyHash P "ModelFault", .str "ModelFault" 302, .ref 105⟩, ⟨PyData.keyHash P "gcd_of", .str "gcd_of" 312, .ref 114⟩, ⟨PyData.keyHash P "ratio", .str "ratio" 321, .ref 121⟩, ⟨PyData.keyHash P "mul", .str "mul" 329, .ref 128⟩, ⟨PyData.keyHash P "is_whole", .str "is_whole" 336, .ref 135⟩, ⟨PyData.keyHash P "mask_of", .str "mask_of" 345, .ref 142⟩, ⟨PyData.keyHash P "signed_of", .str "signed_of" 353, .ref 149⟩, ⟨PyData.keyHash P "one_value", .str "one_value" 362, .ref 156⟩, ⟨PyData.keyHash P "divided_value", .str "divided_value" 371, .ref 163⟩, ⟨PyData.keyHash P "rest_value", .str "rest_value" 379, .ref 170⟩, ⟨PyData.keyHash P "shifted_value", .str "shifted_value" 389, .ref 177⟩, ⟨PyData.keyHash P "two_value", .str "two_value" 399, .ref 184⟩, ⟨PyData.keyHash P "extract_value", .str "extract_value" 408, .ref 191⟩, ⟨PyData.keyHash P "concat_value", .str "concat_value" 417, .ref 198⟩, ⟨PyData.keyHash P "sign_extended", .str "sign_extended" 426, .ref 205⟩, ⟨PyData.keyHash P "BOOL", .str "BOOL" 428, .int 0 427⟩, ⟨PyData.keyHash P "INT", .str "INT" 430, .int 1 429⟩, ⟨PyData.keyHash P "REAL", .str "REAL" 432, .int 2 431⟩, ⟨PyData.keyHash P "WIDEST", .str "WIDEST" 434, .int 4096 433⟩, ⟨PyData.keyHash P "MOST_BITS", .str "MOST_BITS" 438, .int 65536 437⟩, ⟨PyData.keyHash P "BV_SAME", .str "BV_SAME" 449, .ref 206⟩, ⟨PyData.keyHash P "BV_ASK", .str "BV_ASK" 454, .ref 207⟩] 35, #[]⟩
noncomputable def o12_2 : Obj := ⟨.none, none, .fields #[.int 1 0, .int 0 0, .ref 20, .int 5 0, .int 0 0, .ref 28, .int 13 0, .int 0 0, .ref 56, .int 17 0, .int 0 0, .ref 75, .int 21 0, .int 0 0, .ref 94, .int 26 0, .int 0 0, .ref 113, .int 31 0, .int 0 0, .ref 120, .int 38 0, .int 0 0, .ref 127, .int 42 0, .int 0 0, .ref 134, .int 45 0, .int 0 0, .ref 141, .int 47 0, .int 0 0, .ref 148, .int 49 0, .int 0 0, .ref 155, .int 55 0, .int 0 0, .ref 162, .int 57 0, .int 0 0, .ref 169, .int 59 0, .int 0 0, .ref 176, .int 63 0, .int 0 0, .ref 183, .int 83 0, .int 0 0, .ref 190, .int 85 0, .int 0 0, .ref 197, .int 87 0, .int 0 0, .ref 204], #[]⟩
noncomputable def o157 : Obj := ⟨.type "tuple", none, .seq #[] 0, #[]⟩
noncomputable def o158 : Obj := ⟨.none, none, .fields #[], #[]⟩
noncomputable def o159 : Obj := ⟨.type "tuple", none, .seq #[.str "x" 366, .str "y" 367, .str "width" 368] 0, #[]⟩
noncomputable def o160 : Obj := ⟨.type "tuple", none, .seq #[] 0, #[]⟩
noncomputable def o161 : Obj := fnO (pickS 15) rfl .none none "divided_value" 0 [] .none .none .none .none none .none .none 0 #[]
noncomputable def o162 : Obj := ⟨.type "code", none, .fields #[.str "divided_value" 363, .str "divided_value" 364, .str "/claim/cut.py" 365, .int 55 0, .int 3 0, .int 0 0, .int 0 0, .int 3 0, .ref 157, .bool true, .int 181 0, .ref 158, .none, .ref 159, .ref 160, .ref 161, .int 369 0, .int 55 0, .str "/claim/cut.py" 370], #[]⟩
noncomputable def o163 : Obj := fnO (pickS 15) rfl (.type "function") none "divided_value" 3 [] .none .none .none (.str "minismt.terms" 337) none (.ref 162) .none 0 #[]
noncomputable def o164 : Obj := ⟨.type "tuple", none, .seq #[] 0, #[]⟩
noncomputable def o165 : Obj := ⟨.none, none, .fields #[], #[]⟩
noncomputable def o166 : Obj := ⟨.type "tuple", none, .seq #[.str "x" 375, .str "y" 376] 0, #[]⟩
noncomputable def o167 : Obj := ⟨.type "tuple", none, .seq #[] 0, #[]⟩
noncomputable def o168 : Obj := fnO (pickS 16) rfl .none none "rest_value" 0 [] .none .none .none .none none .none .none 0 #[]
noncomputable def o169 : Obj := ⟨.type "code", none, .fields #[.str "rest_value" 372, .str "rest_value" 373, .str "/claim/cut.py" 374, .int 57 0, .int 2 0, .int 0 0, .int 0 0, .int 3 0, .ref 164, .bool true, .int 181 0, .ref 165, .none, .ref 166, .ref 167, .ref 168, .int 377 0, .int 57 0, .str "/claim/cut.py" 378], #[]⟩
noncomputable def o170 : Obj := fnO (pickS 16) rfl (.type "function") none "rest_value" 3 [] .none .none .none (.str "minismt.terms" 337) none (.ref 169) .none 0 #[]
noncomputable def o171 : Obj := ⟨.type "tuple", none, .seq #[] 0, #[]⟩
noncomputable def o172 : Obj := ⟨.none, none, .fields #[], #[]⟩
noncomputable def o173 : Obj := ⟨.type "tuple", none, .seq #[.str "op" 383, .str "x" 384, .str "y" 385, .str "width" 386] 0, #[]⟩
noncomputable def o174 : Obj := ⟨.type "tuple", none, .seq #[] 0, #[]⟩
noncomputable def o175 : Obj := fnO (pickS 17) rfl .none none "shifted_value" 0 [] .none .none .none .none none .none .none 0 #[]
noncomputable def o176 : Obj := ⟨.type "code", none, .fields #[.str "shifted_value" 380, .str "shifted_value" 381, .str "/claim/cut.py" 382, .int 59 0, .int 4 0, .int 0 0, .int 0 0, .int 3 0, .ref 171, .bool true, .int 181 0, .ref 172, .none, .ref 173, .ref 174, .ref 175, .int 387 0, .int 59 0, .str "/claim/cut.py" 388], #[]⟩
noncomputable def o177 : Obj := fnO (pickS 17) rfl (.type "function") none "shifted_value" 3 [] .none .none .none (.str "minismt.terms" 337) none (.ref 176) .none 0 #[]
noncomputable def o178 : Obj := ⟨.type "tuple", none, .seq #[] 0, #[]⟩
noncomputable def o179 : Obj := ⟨.none, none, .fields #[], #[]⟩
noncomputable def o180 : Obj := ⟨.type "tuple", none, .seq #[.str "op" 393, .str "x" 394, .str "y" 395, .str "width" 396] 0, #[]⟩
noncomputable def o181 : Obj := ⟨.type "tuple", none, .seq #[] 0, #[]⟩
noncomputable def o182 : Obj := fnO (pickS 18) rfl .none none "two_value" 0 [] .none .none .none .none none .none .none 0 #[]
noncomputable def o183 : Obj := ⟨.type "code", none, .fields #[.str "two_value" 390, .str "two_value" 391, .str "/claim/cut.py" 392, .int 63 0, .int 4 0, .int 0 0, .int 0 0, .int 3 0, .ref 178, .bool true, .int 181 0, .ref 179, .none, .ref 180, .ref 181, .ref 182, .int 397 0, .int 63 0, .str "/claim/cut.py" 398], #[]⟩
noncomputable def o184 : Obj := fnO (pickS 18) rfl (.type "function") none "two_value" 3 [] .none .none .none (.str "minismt.terms" 337) none (.ref 183) .none 0 #[]
noncomputable def o185 : Obj := ⟨.type "tuple", none, .seq #[] 0, #[]⟩
noncomputable def o186 : Obj := ⟨.none, none, .fields #[], #[]⟩
noncomputable def o187 : Obj := ⟨.type "tuple", none, .seq #[.str "x" 403, .str "high" 404, .str "low" 405] 0, #[]⟩
noncomputable def o188 : Obj := ⟨.type "tuple", none, .seq #[] 0, #[]⟩
noncomputable def o189 : Obj := fnO (pickS 19) rfl .none none "extract_value" 0 [] .none .none .none .none none .none .none 0 #[]
noncomputable def o190 : Obj := ⟨.type "code", none, .fields #[.str "extract_value" 400, .str "extract_value" 401, .str "/claim/cut.py" 402, .int 83 0, .int 3 0, .int 0 0, .int 0 0, .int 3 0, .ref 185, .bool true, .int 181 0, .ref 186, .none, .ref 187, .ref 188, .ref 189, .int 406 0, .int 83 0, .str "/claim/cut.py" 407], #[]⟩
noncomputable def o191 : Obj := fnO (pickS 19) rfl (.type "function") none "extract_value" 3 [] .none .none .none (.str "minismt.terms" 337) none (.ref 190) .none 0 #[]
noncomputable def o192 : Obj := ⟨.type "tuple", none, .seq #[] 0, #[]⟩
noncomputable def o193 : Obj := ⟨.none, none, .fields #[], #[]⟩
noncomputable def o194 : Obj := ⟨.type "tuple", none, .seq #[.str "x" 412, .str "y" 413, .str "width_of_y" 414] 0, #[]⟩
noncomputable def o195 : Obj := ⟨.type "tuple", none, .seq #[] 0, #[]⟩
noncomputable def o196 : Obj := fnO (pickS 20) rfl .none none "concat_value" 0 [] .none .none .none .none none .none .none 0 #[]
noncomputable def o197 : Obj := ⟨.type "code", none, .fields #[.str "concat_value" 409, .str "concat_value" 410, .str "/claim/cut.py" 411, .int 85 0, .int 3 0, .int 0 0, .int 0 0, .int 3 0, .ref 192, .bool true, .int 181 0, .ref 193, .none, .ref 194, .ref 195, .ref 196, .int 415 0, .int 85 0, .str "/claim/cut.py" 416], #[]⟩
noncomputable def o198 : Obj := fnO (pickS 20) rfl (.type "function") none "concat_value" 3 [] .none .none .none (.str "minismt.terms" 337) none (.ref 197) .none 0 #[]
noncomputable def o199 : Obj := ⟨.type "tuple", none, .seq #[] 0, #[]⟩
noncomputable def o200 : Obj := ⟨.none, none, .fields #[], #[]⟩
noncomputable def o201 : Obj := ⟨.type "tuple", none, .seq #[.str "x" 421, .str "width" 422, .str "many" 423] 0, #[]⟩
noncomputable def o202 : Obj := ⟨.type "tuple", none, .seq #[] 0, #[]⟩
noncomputable def o203 : Obj := fnO (pickS 21) rfl .none none "sign_extended" 0 [] .none .none .none .none none .none .none 0 #[]
noncomputable def o204 : Obj := ⟨.type "code", none, .fields #[.str "sign_extended" 418, .str "sign_extended" 419, .str "/claim/cut.py" 420, .int 87 0, .int 3 0, .int 0 0, .int 0 0, .int 3 0, .ref 199, .bool true, .int 181 0, .ref 200, .none, .ref 201, .ref 202, .ref 203, .int 424 0, .int 87 0, .str "/claim/cut.py" 425], #[]⟩
noncomputable def o205 : Obj := fnO (pickS 21) rfl (.type "function") none "sign_extended" 3 [] .none .none .none (.str "minismt.terms" 337) none (.ref 204) .none 0 #[]
noncomputable def o206 : Obj := ⟨.type "tuple", none, .seq #[.str "bvand" 439, .str "bvor" 440, .str "bvxor" 441, .str "bvadd" 442, .str "bvsub" 443, .str "bvmul" 444, .str "bvshl" 445, .str "bvlshr" 446, .str "bvudiv" 447, .str "bvurem" 448] 0, #[]⟩
noncomputable def o207 : Obj := ⟨.type "tuple", none, .seq #[.str "bvult" 450, .str "bvule" 451, .str "bvslt" 452, .str "bvsle" 453] 0, #[]⟩
noncomputable def o3_2 (P : Params) : Obj := ⟨.type "dict", none, .dict #[⟨PyData.keyHash P "__name__", .str "__name__" 165, .str "minismt.terms" 337⟩, ⟨PyData.keyHash P "__doc__", .str "__doc__" 166, .none⟩, ⟨PyData.keyHash P "__package__", .str "__package__" 167, .none⟩, ⟨PyData.keyHash P "__loader__", .str "__loader__" 168, .builtin "__main__.__loader__#opaque"⟩, ⟨PyData.keyHash P "__spec__", .str "__spec__" 169, .none⟩, ⟨PyData.keyHash P "__annotations__", .str "__annotations__" 170, .ref 6⟩, ⟨PyData.keyHash P "__builtins__", .str "__builtins__" 171, .ref 4⟩, ⟨PyData.keyHash P "__file__", .str "__file__" 173, .str "/claim/cut.py" 172⟩, ⟨PyData.keyHash P "__cached__", .str "__cached__" 174, .none⟩, ⟨PyData.keyHash P "_wall", .str "_wall" 193, .ref 21⟩, ⟨PyData.keyHash P "SmtError", .str "SmtError" 233, .ref 47⟩, ⟨PyData.keyHash P "SortFault", .str "SortFault" 256, .ref 67⟩, ⟨PyData.keyHash P "LimitFault", .str "LimitFault" 279, .ref 86⟩, ⟨PyData.keyHash P "ModelFault", .str "ModelFault" 302, .ref 105⟩, ⟨PyData.keyHash P "gcd_of", .str "gcd_of" 312, .ref 114⟩, ⟨PyData.keyHash P "ratio", .str "ratio" 321, .ref 121⟩, ⟨PyData.keyHash P "mul", .str "mul" 329, .ref 128⟩, ⟨PyData.keyHash P "is_whole", .str "is_whole" 336, .ref 135⟩, ⟨PyData.keyHash P "mask_of", .str "mask_of" 345, .ref 142⟩, ⟨PyData.keyHash P "signed_of", .str "signed_of" 353, .ref 149⟩, ⟨PyData.keyHash P "one_value", .str "one_value" 362, .ref 156⟩, ⟨PyData.keyHash P "divided_value", .str "divided_value" 371, .ref 163⟩, ⟨PyData.keyHash P "rest_value", .str "rest_value" 379, .ref 170⟩, ⟨PyData.keyHash P "shifted_value", .str "shifted_value" 389, .ref 177⟩, ⟨PyData.keyHash P "two_value", .str "two_value" 399, .ref 184⟩, ⟨PyData.keyHash P "extract_value", .str "extract_value" 408, .ref 191⟩, ⟨PyData.keyHash P "concat_value", .str "concat_value" 417, .ref 198⟩, ⟨PyData.keyHash P "sign_extended", .str "sign_extended" 426, .ref 205⟩, ⟨PyData.keyHash P "BOOL", .str "BOOL" 428, .int 0 427⟩, ⟨PyData.keyHash P "INT", .str "INT" 430, .int 1 429⟩, ⟨PyData.keyHash P "REAL", .str "REAL" 432, .int 2 431⟩, ⟨PyData.keyHash P "WIDEST", .str "WIDEST" 434, .int 4096 433⟩, ⟨PyData.keyHash P "MOST_BITS", .str "MOST_BITS" 438, .int 65536 437⟩, ⟨PyData.keyHash P "BV_SAME", .str "BV_SAME" 449, .ref 206⟩, ⟨PyData.keyHash P "BV_ASK", .str "BV_ASK" 454, .ref 207⟩, ⟨PyData.keyHash P "Bank", .str "Bank" 738, .ref 420⟩] 36, #[]⟩
noncomputable def o12_3 : Obj := ⟨.none, none, .fields #[.int 1 0, .int 0 0, .ref 20, .int 5 0, .int 0 0, .ref 28, .int 13 0, .int 0 0, .ref 56, .int 17 0, .int 0 0, .ref 75, .int 21 0, .int 0 0, .ref 94, .int 26 0, .int 0 0, .ref 113, .int 31 0, .int 0 0, .ref 120, .int 38 0, .int 0 0, .ref 127, .int 42 0, .int 0 0, .ref 134, .int 45 0, .int 0 0, .ref 141, .int 47 0, .int 0 0, .ref 148, .int 49 0, .int 0 0, .ref 155, .int 55 0, .int 0 0, .ref 162, .int 57 0, .int 0 0, .ref 169, .int 59 0, .int 0 0, .ref 176, .int 63 0, .int 0 0, .ref 183, .int 83 0, .int 0 0, .ref 190, .int 85 0, .int 0 0, .ref 197, .int 87 0, .int 0 0, .ref 204, .int 96 0, .int 0 0, .ref 213], #[]⟩
noncomputable def o208 : Obj := ⟨.type "tuple", none, .seq #[] 0, #[]⟩
noncomputable def o209 : Obj := ⟨.type "builtin_function_or_method", none, .fields #[.builtin "type.__prepare__", .type "type"], #[]⟩
noncomputable def o210 (P : Params) : Obj := ⟨.type "dict", none, .dict #[⟨PyData.keyHash P "__module__", .str "__module__" 462, .str "minismt.terms" 337⟩, ⟨PyData.keyHash P "__qualname__", .str "__qualname__" 464, .str "Bank" 463⟩, ⟨PyData.keyHash P "__firstlineno__", .str "__firstlineno__" 466, .int 96 465⟩, ⟨PyData.keyHash P "__init__", .str "__init__" 473, .ref 221⟩, ⟨PyData.keyHash P "sort_name", .str "sort_name" 481, .ref 228⟩, ⟨PyData.keyHash P "declare_sort", .str "declare_sort" 489, .ref 235⟩, ⟨PyData.keyHash P "width_of", .str "width_of" 497, .ref 242⟩, ⟨PyData.keyHash P "is_number_sort", .str "is_number_sort" 505, .ref 249⟩, ⟨PyData.keyHash P "is_free_sort", .str "is_free_sort" 513, .ref 256⟩, ⟨PyData.keyHash P "declare_fun", .str "declare_fun" 523, .ref 263⟩, ⟨PyData.keyHash P "fresh_fun", .str "fresh_fun" 533, .ref 270⟩, ⟨PyData.keyHash P "fresh_const", .str "fresh_const" 542, .ref 277⟩, ⟨PyData.keyHash P "fun_name", .str "fun_name" 550, .ref 284⟩, ⟨PyData.keyHash P "fun_arg_sorts", .str "fun_arg_sorts" 558, .ref 291⟩, ⟨PyData.keyHash P "fun_result", .str "fun_result" 566, .ref 298⟩, ⟨PyData.keyHash P "fun_count", .str "fun_count" 573, .ref 305⟩, ⟨PyData.keyHash P "op", .str "op" 581, .ref 312⟩, ⟨PyData.keyHash P "args", .str "args" 589, .ref 319⟩, ⟨PyData.keyHash P "sort", .str "sort" 597, .ref 326⟩, ⟨PyData.keyHash P "data", .str "data" 605, .ref 333⟩, ⟨PyData.keyHash P "width", .str "width" 613, .ref 340⟩, ⟨PyData.keyHash P "size", .str "size" 620, .ref 347⟩, ⟨PyData.keyHash P "make", .str "make" 633, .ref 354⟩, ⟨PyData.keyHash P "find_made", .str "find_made" 644, .ref 361⟩, ⟨PyData.keyHash P "is_value", .str "is_value" 652, .ref 368⟩, ⟨PyData.keyHash P "want", .str "want" 662, .ref 375⟩, ⟨PyData.keyHash P "want_all", .str "want_all" 672, .ref 382⟩, ⟨PyData.keyHash P "true_term", .str "true_term" 679, .ref 389⟩, ⟨PyData.keyHash P "false_term", .str "false_term" 686, .ref 396⟩, ⟨PyData.keyHash P "bool_term", .str "bool_term" 694, .ref 403⟩, ⟨PyData.keyHash P "parts", .str "parts" 702, .ref 410⟩, ⟨PyData.keyHash P "parts_of_all", .str "parts_of_all" 717, .ref 417⟩, ⟨PyData.keyHash P "__static_attributes__", .str "__static_attributes__" 731, .ref 418⟩] 33, #[]⟩
noncomputable def o211 : Obj := ⟨.type "tuple", none, .seq #[] 0, #[]⟩
noncomputable def o212 : Obj := ⟨.none, none, .fields #[.int 98 0, .int 4 0, .ref 220, .int 113 0, .int 4 0, .ref 227, .int 116 0, .int 4 0, .ref 234, .int 119 0, .int 4 0, .ref 241, .int 122 0, .int 4 0, .ref 248, .int 125 0, .int 4 0, .ref 255, .int 128 0, .int 4 0, .ref 262, .int 134 0, .int 4 0, .ref 269, .int 137 0, .int 4 0, .ref 276, .int 140 0, .int 4 0, .ref 283, .int 143 0, .int 4 0, .ref 290, .int 146 0, .int 4 0, .ref 297, .int 149 0, .int 4 0, .ref 304, .int 152 0, .int 4 0, .ref 311, .int 155 0, .int 4 0, .ref 318, .int 158 0, .int 4 0, .ref 325, .int 161 0, .int 4 0, .ref 332, .int 164 0, .int 4 0, .ref 339, .int 167 0, .int 4 0, .ref 346, .int 170 0, .int 4 0, .ref 353, .int 182 0, .int 4 0, .ref 360, .int 185 0, .int 4 0, .ref 367, .int 188 0, .int 4 0, .ref 374, .int 192 0, .int 4 0, .ref 381, .int 195 0, .int 4 0, .ref 388, .int 198 0, .int 4 0, .ref 395, .int 201 0, .int 4 0, .ref 402, .int 204 0, .int 4 0, .ref 409, .int 207 0, .int 4 0, .ref 416], #[]⟩
noncomputable def o213 : Obj := ⟨.type "code", none, .fields #[.str "Bank" 457, .str "Bank" 458, .str "/claim/cut.py" 459, .int 96 0, .int 0 0, .int 0 0, .int 0 0, .int 0 0, .ref 211, .bool false, .int 181 0, .ref 212, .none, .none, .none, .none, .int 460 0, .int 96 0, .str "/claim/cut.py" 461], #[]⟩
noncomputable def o214 : Obj := ⟨.type "frame", none, .plain, #[(some (.ref 213)), (some (.ref 3)), (some (.ref 210)), none, (some (.str "minismt.terms" 337)), none, (some (.ref 0))]⟩
noncomputable def o215 : Obj := ⟨.type "tuple", none, .seq #[] 0, #[]⟩
noncomputable def o216 : Obj := ⟨.none, none, .fields #[], #[]⟩
noncomputable def o217 : Obj := ⟨.type "tuple", none, .seq #[.str "self" 470] 0, #[]⟩
noncomputable def o218 : Obj := ⟨.type "tuple", none, .seq #[] 0, #[]⟩
noncomputable def o219 : Obj := fnO (subS 29 0) rfl .none none "Bank.__init__" 0 [] .none .none .none .none none .none .none 0 #[]
noncomputable def o220 : Obj := ⟨.type "code", none, .fields #[.str "__init__" 467, .str "Bank.__init__" 468, .str "/claim/cut.py" 469, .int 98 0, .int 1 0, .int 0 0, .int 0 0, .int 3 0, .ref 215, .bool true, .int 181 0, .ref 216, .none, .ref 217, .ref 218, .ref 219, .int 471 0, .int 98 0, .str "/claim/cut.py" 472], #[]⟩
noncomputable def o221 : Obj := fnO (subS 29 0) rfl (.type "function") none "Bank.__init__" 3 [] .none .none .none (.str "minismt.terms" 337) none (.ref 220) .none 0 #[]
noncomputable def o222 : Obj := ⟨.type "tuple", none, .seq #[] 0, #[]⟩
noncomputable def o223 : Obj := ⟨.none, none, .fields #[], #[]⟩
noncomputable def o224 : Obj := ⟨.type "tuple", none, .seq #[.str "self" 477, .str "s" 478] 0, #[]⟩
noncomputable def o225 : Obj := ⟨.type "tuple", none, .seq #[] 0, #[]⟩
noncomputable def o226 : Obj := fnO (subS 29 1) rfl .none none "Bank.sort_name" 0 [] .none .none .none .none none .none .none 0 #[]
noncomputable def o227 : Obj := ⟨.type "code", none, .fields #[.str "sort_name" 474, .str "Bank.sort_name" 475, .str "/claim/cut.py" 476, .int 113 0, .int 2 0, .int 0 0, .int 0 0, .int 3 0, .ref 222, .bool true, .int 181 0, .ref 223, .none, .ref 224, .ref 225, .ref 226, .int 479 0, .int 113 0, .str "/claim/cut.py" 480], #[]⟩
noncomputable def o228 : Obj := fnO (subS 29 1) rfl (.type "function") none "Bank.sort_name" 3 [] .none .none .none (.str "minismt.terms" 337) none (.ref 227) .none 0 #[]
noncomputable def o229 : Obj := ⟨.type "tuple", none, .seq #[] 0, #[]⟩
noncomputable def o230 : Obj := ⟨.none, none, .fields #[], #[]⟩
noncomputable def o231 : Obj := ⟨.type "tuple", none, .seq #[.str "self" 485, .str "name" 486] 0, #[]⟩
noncomputable def o232 : Obj := ⟨.type "tuple", none, .seq #[] 0, #[]⟩
noncomputable def o233 : Obj := fnO (subS 29 2) rfl .none none "Bank.declare_sort" 0 [] .none .none .none .none none .none .none 0 #[]
noncomputable def o234 : Obj := ⟨.type "code", none, .fields #[.str "declare_sort" 482, .str "Bank.declare_sort" 483, .str "/claim/cut.py" 484, .int 116 0, .int 2 0, .int 0 0, .int 0 0, .int 3 0, .ref 229, .bool true, .int 181 0, .ref 230, .none, .ref 231, .ref 232, .ref 233, .int 487 0, .int 116 0, .str "/claim/cut.py" 488], #[]⟩
noncomputable def o235 : Obj := fnO (subS 29 2) rfl (.type "function") none "Bank.declare_sort" 3 [] .none .none .none (.str "minismt.terms" 337) none (.ref 234) .none 0 #[]
noncomputable def o236 : Obj := ⟨.type "tuple", none, .seq #[] 0, #[]⟩
noncomputable def o237 : Obj := ⟨.none, none, .fields #[], #[]⟩
noncomputable def o238 : Obj := ⟨.type "tuple", none, .seq #[.str "self" 493, .str "s" 494] 0, #[]⟩
noncomputable def o239 : Obj := ⟨.type "tuple", none, .seq #[] 0, #[]⟩
noncomputable def o240 : Obj := fnO (subS 29 3) rfl .none none "Bank.width_of" 0 [] .none .none .none .none none .none .none 0 #[]
noncomputable def o241 : Obj := ⟨.type "code", none, .fields #[.str "width_of" 490, .str "Bank.width_of" 491, .str "/claim/cut.py" 492, .int 119 0, .int 2 0, .int 0 0, .int 0 0, .int 3 0, .ref 236, .bool true, .int 181 0, .ref 237, .none, .ref 238, .ref 239, .ref 240, .int 495 0, .int 119 0, .str "/claim/cut.py" 496], #[]⟩
noncomputable def o242 : Obj := fnO (subS 29 3) rfl (.type "function") none "Bank.width_of" 3 [] .none .none .none (.str "minismt.terms" 337) none (.ref 241) .none 0 #[]
noncomputable def o243 : Obj := ⟨.type "tuple", none, .seq #[] 0, #[]⟩
noncomputable def o244 : Obj := ⟨.none, none, .fields #[], #[]⟩
noncomputable def o245 : Obj := ⟨.type "tuple", none, .seq #[.str "self" 501, .str "s" 502] 0, #[]⟩
noncomputable def o246 : Obj := ⟨.type "tuple", none, .seq #[] 0, #[]⟩
noncomputable def o247 : Obj := fnO (subS 29 4) rfl .none none "Bank.is_number_sort" 0 [] .none .none .none .none none .none .none 0 #[]
noncomputable def o248 : Obj := ⟨.type "code", none, .fields #[.str "is_number_sort" 498, .str "Bank.is_number_sort" 499, .str "/claim/cut.py" 500, .int 122 0, .int 2 0, .int 0 0, .int 0 0, .int 3 0, .ref 243, .bool true, .int 181 0, .ref 244, .none, .ref 245, .ref 246, .ref 247, .int 503 0, .int 122 0, .str "/claim/cut.py" 504], #[]⟩
noncomputable def o249 : Obj := fnO (subS 29 4) rfl (.type "function") none "Bank.is_number_sort" 3 [] .none .none .none (.str "minismt.terms" 337) none (.ref 248) .none 0 #[]
noncomputable def o250 : Obj := ⟨.type "tuple", none, .seq #[] 0, #[]⟩
noncomputable def o251 : Obj := ⟨.none, none, .fields #[], #[]⟩
noncomputable def o252 : Obj := ⟨.type "tuple", none, .seq #[.str "self" 509, .str "s" 510] 0, #[]⟩
noncomputable def o253 : Obj := ⟨.type "tuple", none, .seq #[] 0, #[]⟩
noncomputable def o254 : Obj := fnO (subS 29 5) rfl .none none "Bank.is_free_sort" 0 [] .none .none .none .none none .none .none 0 #[]
noncomputable def o255 : Obj := ⟨.type "code", none, .fields #[.str "is_free_sort" 506, .str "Bank.is_free_sort" 507, .str "/claim/cut.py" 508, .int 125 0, .int 2 0, .int 0 0, .int 0 0, .int 3 0, .ref 250, .bool true, .int 181 0, .ref 251, .none, .ref 252, .ref 253, .ref 254, .int 511 0, .int 125 0, .str "/claim/cut.py" 512], #[]⟩
noncomputable def o256 : Obj := fnO (subS 29 5) rfl (.type "function") none "Bank.is_free_sort" 3 [] .none .none .none (.str "minismt.terms" 337) none (.ref 255) .none 0 #[]
noncomputable def o257 : Obj := ⟨.type "tuple", none, .seq #[] 0, #[]⟩
noncomputable def o258 : Obj := ⟨.none, none, .fields #[], #[]⟩
noncomputable def o259 : Obj := ⟨.type "tuple", none, .seq #[.str "self" 517, .str "name" 518, .str "arg_sorts" 519, .str "result" 520] 0, #[]⟩
noncomputable def o260 : Obj := ⟨.type "tuple", none, .seq #[] 0, #[]⟩
noncomputable def o261 : Obj := fnO (subS 29 6) rfl .none none "Bank.declare_fun" 0 [] .none .none .none .none none .none .none 0 #[]
noncomputable def o262 : Obj := ⟨.type "code", none, .fields #[.str "declare_fun" 514, .str "Bank.declare_fun" 515, .str "/claim/cut.py" 516, .int 128 0, .int 4 0, .int 0 0, .int 0 0, .int 3 0, .ref 257, .bool true, .int 181 0, .ref 258, .none, .ref 259, .ref 260, .ref 261, .int 521 0, .int 128 0, .str "/claim/cut.py" 522], #[]⟩
noncomputable def o263 : Obj := fnO (subS 29 6) rfl (.type "function") none "Bank.declare_fun" 3 [] .none .none .none (.str "minismt.terms" 337) none (.ref 262) .none 0 #[]
noncomputable def o264 : Obj := ⟨.type "tuple", none, .seq #[] 0, #[]⟩
noncomputable def o265 : Obj := ⟨.none, none, .fields #[], #[]⟩
noncomputable def o266 : Obj := ⟨.type "tuple", none, .seq #[.str "self" 527, .str "stem" 528, .str "arg_sorts" 529, .str "result" 530] 0, #[]⟩
noncomputable def o267 : Obj := ⟨.type "tuple", none, .seq #[] 0, #[]⟩
noncomputable def o268 : Obj := fnO (subS 29 7) rfl .none none "Bank.fresh_fun" 0 [] .none .none .none .none none .none .none 0 #[]
noncomputable def o269 : Obj := ⟨.type "code", none, .fields #[.str "fresh_fun" 524, .str "Bank.fresh_fun" 525, .str "/claim/cut.py" 526, .int 134 0, .int 4 0, .int 0 0, .int 0 0, .int 3 0, .ref 264, .bool true, .int 181 0, .ref 265, .none, .ref 266, .ref 267, .ref 268, .int 531 0, .int 134 0, .str "/claim/cut.py" 532], #[]⟩
noncomputable def o270 : Obj := fnO (subS 29 7) rfl (.type "function") none "Bank.fresh_fun" 3 [] .none .none .none (.str "minismt.terms" 337) none (.ref 269) .none 0 #[]
noncomputable def o271 : Obj := ⟨.type "tuple", none, .seq #[] 0, #[]⟩
noncomputable def o272 : Obj := ⟨.none, none, .fields #[], #[]⟩
noncomputable def o273 : Obj := ⟨.type "tuple", none, .seq #[.str "self" 537, .str "name" 538, .str "s" 539] 0, #[]⟩
noncomputable def o274 : Obj := ⟨.type "tuple", none, .seq #[] 0, #[]⟩
noncomputable def o275 : Obj := fnO (subS 29 8) rfl .none none "Bank.fresh_const" 0 [] .none .none .none .none none .none .none 0 #[]
noncomputable def o276 : Obj := ⟨.type "code", none, .fields #[.str "fresh_const" 534, .str "Bank.fresh_const" 535, .str "/claim/cut.py" 536, .int 137 0, .int 3 0, .int 0 0, .int 0 0, .int 3 0, .ref 271, .bool true, .int 181 0, .ref 272, .none, .ref 273, .ref 274, .ref 275, .int 540 0, .int 137 0, .str "/claim/cut.py" 541], #[]⟩
noncomputable def o277 : Obj := fnO (subS 29 8) rfl (.type "function") none "Bank.fresh_const" 3 [] .none .none .none (.str "minismt.terms" 337) none (.ref 276) .none 0 #[]
noncomputable def o278 : Obj := ⟨.type "tuple", none, .seq #[] 0, #[]⟩
noncomputable def o279 : Obj := ⟨.none, none, .fields #[], #[]⟩
noncomputable def o280 : Obj := ⟨.type "tuple", none, .seq #[.str "self" 546, .str "f" 547] 0, #[]⟩
noncomputable def o281 : Obj := ⟨.type "tuple", none, .seq #[] 0, #[]⟩
noncomputable def o282 : Obj := fnO (subS 29 9) rfl .none none "Bank.fun_name" 0 [] .none .none .none .none none .none .none 0 #[]
noncomputable def o283 : Obj := ⟨.type "code", none, .fields #[.str "fun_name" 543, .str "Bank.fun_name" 544, .str "/claim/cut.py" 545, .int 140 0, .int 2 0, .int 0 0, .int 0 0, .int 3 0, .ref 278, .bool true, .int 181 0, .ref 279, .none, .ref 280, .ref 281, .ref 282, .int 548 0, .int 140 0, .str "/claim/cut.py" 549], #[]⟩
noncomputable def o284 : Obj := fnO (subS 29 9) rfl (.type "function") none "Bank.fun_name" 3 [] .none .none .none (.str "minismt.terms" 337) none (.ref 283) .none 0 #[]
noncomputable def o285 : Obj := ⟨.type "tuple", none, .seq #[] 0, #[]⟩
noncomputable def o286 : Obj := ⟨.none, none, .fields #[], #[]⟩
noncomputable def o287 : Obj := ⟨.type "tuple", none, .seq #[.str "self" 554, .str "f" 555] 0, #[]⟩
noncomputable def o288 : Obj := ⟨.type "tuple", none, .seq #[] 0, #[]⟩
noncomputable def o289 : Obj := fnO (subS 29 10) rfl .none none "Bank.fun_arg_sorts" 0 [] .none .none .none .none none .none .none 0 #[]
noncomputable def o290 : Obj := ⟨.type "code", none, .fields #[.str "fun_arg_sorts" 551, .str "Bank.fun_arg_sorts" 552, .str "/claim/cut.py" 553, .int 143 0, .int 2 0, .int 0 0, .int 0 0, .int 3 0, .ref 285, .bool true, .int 181 0, .ref 286, .none, .ref 287, .ref 288, .ref 289, .int 556 0, .int 143 0, .str "/claim/cut.py" 557], #[]⟩
noncomputable def o291 : Obj := fnO (subS 29 10) rfl (.type "function") none "Bank.fun_arg_sorts" 3 [] .none .none .none (.str "minismt.terms" 337) none (.ref 290) .none 0 #[]
noncomputable def o292 : Obj := ⟨.type "tuple", none, .seq #[] 0, #[]⟩
noncomputable def o293 : Obj := ⟨.none, none, .fields #[], #[]⟩
noncomputable def o294 : Obj := ⟨.type "tuple", none, .seq #[.str "self" 562, .str "f" 563] 0, #[]⟩
noncomputable def o295 : Obj := ⟨.type "tuple", none, .seq #[] 0, #[]⟩
noncomputable def o296 : Obj := fnO (subS 29 11) rfl .none none "Bank.fun_result" 0 [] .none .none .none .none none .none .none 0 #[]
noncomputable def o297 : Obj := ⟨.type "code", none, .fields #[.str "fun_result" 559, .str "Bank.fun_result" 560, .str "/claim/cut.py" 561, .int 146 0, .int 2 0, .int 0 0, .int 0 0, .int 3 0, .ref 292, .bool true, .int 181 0, .ref 293, .none, .ref 294, .ref 295, .ref 296, .int 564 0, .int 146 0, .str "/claim/cut.py" 565], #[]⟩
noncomputable def o298 : Obj := fnO (subS 29 11) rfl (.type "function") none "Bank.fun_result" 3 [] .none .none .none (.str "minismt.terms" 337) none (.ref 297) .none 0 #[]
noncomputable def o299 : Obj := ⟨.type "tuple", none, .seq #[] 0, #[]⟩
noncomputable def o300 : Obj := ⟨.none, none, .fields #[], #[]⟩
noncomputable def o301 : Obj := ⟨.type "tuple", none, .seq #[.str "self" 570] 0, #[]⟩
noncomputable def o302 : Obj := ⟨.type "tuple", none, .seq #[] 0, #[]⟩
noncomputable def o303 : Obj := fnO (subS 29 12) rfl .none none "Bank.fun_count" 0 [] .none .none .none .none none .none .none 0 #[]
noncomputable def o304 : Obj := ⟨.type "code", none, .fields #[.str "fun_count" 567, .str "Bank.fun_count" 568, .str "/claim/cut.py" 569, .int 149 0, .int 1 0, .int 0 0, .int 0 0, .int 3 0, .ref 299, .bool true, .int 181 0, .ref 300, .none, .ref 301, .ref 302, .ref 303, .int 571 0, .int 149 0, .str "/claim/cut.py" 572], #[]⟩
noncomputable def o305 : Obj := fnO (subS 29 12) rfl (.type "function") none "Bank.fun_count" 3 [] .none .none .none (.str "minismt.terms" 337) none (.ref 304) .none 0 #[]
noncomputable def o306 : Obj := ⟨.type "tuple", none, .seq #[] 0, #[]⟩
noncomputable def o307 : Obj := ⟨.none, none, .fields #[], #[]⟩
noncomputable def o308 : Obj := ⟨.type "tuple", none, .seq #[.str "self" 577, .str "t" 578] 0, #[]⟩
noncomputable def o309 : Obj := ⟨.type "tuple", none, .seq #[] 0, #[]⟩
noncomputable def o310 : Obj := fnO (subS 29 13) rfl .none none "Bank.op" 0 [] .none .none .none .none none .none .none 0 #[]
noncomputable def o311 : Obj := ⟨.type "code", none, .fields #[.str "op" 574, .str "Bank.op" 575, .str "/claim/cut.py" 576, .int 152 0, .int 2 0, .int 0 0, .int 0 0, .int 3 0, .ref 306, .bool true, .int 181 0, .ref 307, .none, .ref 308, .ref 309, .ref 310, .int 579 0, .int 152 0, .str "/claim/cut.py" 580], #[]⟩
noncomputable def o312 : Obj := fnO (subS 29 13) rfl (.type "function") none "Bank.op" 3 [] .none .none .none (.str "minismt.terms" 337) none (.ref 311) .none 0 #[]
noncomputable def o313 : Obj := ⟨.type "tuple", none, .seq #[] 0, #[]⟩
noncomputable def o314 : Obj := ⟨.none, none, .fields #[], #[]⟩
noncomputable def o315 : Obj := ⟨.type "tuple", none, .seq #[.str "self" 585, .str "t" 586] 0, #[]⟩
noncomputable def o316 : Obj := ⟨.type "tuple", none, .seq #[] 0, #[]⟩
noncomputable def o317 : Obj := fnO (subS 29 14) rfl .none none "Bank.args" 0 [] .none .none .none .none none .none .none 0 #[]
noncomputable def o318 : Obj := ⟨.type "code", none, .fields #[.str "args" 582, .str "Bank.args" 583, .str "/claim/cut.py" 584, .int 155 0, .int 2 0, .int 0 0, .int 0 0, .int 3 0, .ref 313, .bool true, .int 181 0, .ref 314, .none, .ref 315, .ref 316, .ref 317, .int 587 0, .int 155 0, .str "/claim/cut.py" 588], #[]⟩
noncomputable def o319 : Obj := fnO (subS 29 14) rfl (.type "function") none "Bank.args" 3 [] .none .none .none (.str "minismt.terms" 337) none (.ref 318) .none 0 #[]
noncomputable def o320 : Obj := ⟨.type "tuple", none, .seq #[] 0, #[]⟩
noncomputable def o321 : Obj := ⟨.none, none, .fields #[], #[]⟩
noncomputable def o322 : Obj := ⟨.type "tuple", none, .seq #[.str "self" 593, .str "t" 594] 0, #[]⟩
noncomputable def o323 : Obj := ⟨.type "tuple", none, .seq #[] 0, #[]⟩
noncomputable def o324 : Obj := fnO (subS 29 15) rfl .none none "Bank.sort" 0 [] .none .none .none .none none .none .none 0 #[]
noncomputable def o325 : Obj := ⟨.type "code", none, .fields #[.str "sort" 590, .str "Bank.sort" 591, .str "/claim/cut.py" 592, .int 158 0, .int 2 0, .int 0 0, .int 0 0, .int 3 0, .ref 320, .bool true, .int 181 0, .ref 321, .none, .ref 322, .ref 323, .ref 324, .int 595 0, .int 158 0, .str "/claim/cut.py" 596], #[]⟩
noncomputable def o326 : Obj := fnO (subS 29 15) rfl (.type "function") none "Bank.sort" 3 [] .none .none .none (.str "minismt.terms" 337) none (.ref 325) .none 0 #[]
noncomputable def o327 : Obj := ⟨.type "tuple", none, .seq #[] 0, #[]⟩
noncomputable def o328 : Obj := ⟨.none, none, .fields #[], #[]⟩
noncomputable def o329 : Obj := ⟨.type "tuple", none, .seq #[.str "self" 601, .str "t" 602] 0, #[]⟩
noncomputable def o330 : Obj := ⟨.type "tuple", none, .seq #[] 0, #[]⟩
noncomputable def o331 : Obj := fnO (subS 29 16) rfl .none none "Bank.data" 0 [] .none .none .none .none none .none .none 0 #[]
noncomputable def o332 : Obj := ⟨.type "code", none, .fields #[.str "data" 598, .str "Bank.data" 599, .str "/claim/cut.py" 600, .int 161 0, .int 2 0, .int 0 0, .int 0 0, .int 3 0, .ref 327, .bool true, .int 181 0, .ref 328, .none, .ref 329, .ref 330, .ref 331, .int 603 0, .int 161 0, .str "/claim/cut.py" 604], #[]⟩
noncomputable def o333 : Obj := fnO (subS 29 16) rfl (.type "function") none "Bank.data" 3 [] .none .none .none (.str "minismt.terms" 337) none (.ref 332) .none 0 #[]
noncomputable def o334 : Obj := ⟨.type "tuple", none, .seq #[] 0, #[]⟩
noncomputable def o335 : Obj := ⟨.none, none, .fields #[], #[]⟩
noncomputable def o336 : Obj := ⟨.type "tuple", none, .seq #[.str "self" 609, .str "t" 610] 0, #[]⟩
noncomputable def o337 : Obj := ⟨.type "tuple", none, .seq #[] 0, #[]⟩
noncomputable def o338 : Obj := fnO (subS 29 17) rfl .none none "Bank.width" 0 [] .none .none .none .none none .none .none 0 #[]
noncomputable def o339 : Obj := ⟨.type "code", none, .fields #[.str "width" 606, .str "Bank.width" 607, .str "/claim/cut.py" 608, .int 164 0, .int 2 0, .int 0 0, .int 0 0, .int 3 0, .ref 334, .bool true, .int 181 0, .ref 335, .none, .ref 336, .ref 337, .ref 338, .int 611 0, .int 164 0, .str "/claim/cut.py" 612], #[]⟩
noncomputable def o340 : Obj := fnO (subS 29 17) rfl (.type "function") none "Bank.width" 3 [] .none .none .none (.str "minismt.terms" 337) none (.ref 339) .none 0 #[]
noncomputable def o341 : Obj := ⟨.type "tuple", none, .seq #[] 0, #[]⟩
noncomputable def o342 : Obj := ⟨.none, none, .fields #[], #[]⟩
noncomputable def o343 : Obj := ⟨.type "tuple", none, .seq #[.str "self" 617] 0, #[]⟩
noncomputable def o344 : Obj := ⟨.type "tuple", none, .seq #[] 0, #[]⟩
noncomputable def o345 : Obj := fnO (subS 29 18) rfl .none none "Bank.size" 0 [] .none .none .none .none none .none .none 0 #[]
noncomputable def o346 : Obj := ⟨.type "code", none, .fields #[.str "size" 614, .str "Bank.size" 615, .str "/claim/cut.py" 616, .int 167 0, .int 1 0, .int 0 0, .int 0 0, .int 3 0, .ref 341, .bool true, .int 181 0, .ref 342, .none, .ref 343, .ref 344, .ref 345, .int 618 0, .int 167 0, .str "/claim/cut.py" 619], #[]⟩
noncomputable def o347 : Obj := fnO (subS 29 18) rfl (.type "function") none "Bank.size" 3 [] .none .none .none (.str "minismt.terms" 337) none (.ref 346) .none 0 #[]
noncomputable def o348 : Obj := ⟨.type "tuple", none, .seq #[] 0, #[]⟩
noncomputable def o349 : Obj := ⟨.none, none, .fields #[], #[]⟩
noncomputable def o350 : Obj := ⟨.type "tuple", none, .seq #[.str "self" 624, .str "op" 625, .str "args" 626, .str "sort" 627, .str "data" 628, .str "key" 629, .str "found" 630] 0, #[]⟩
noncomputable def o351 : Obj := ⟨.type "tuple", none, .seq #[] 0, #[]⟩
noncomputable def o352 : Obj := fnO (subS 29 19) rfl .none none "Bank.make" 0 [] .none .none .none .none none .none .none 0 #[]
noncomputable def o353 : Obj := ⟨.type "code", none, .fields #[.str "make" 621, .str "Bank.make" 622, .str "/claim/cut.py" 623, .int 170 0, .int 5 0, .int 0 0, .int 0 0, .int 3 0, .ref 348, .bool true, .int 181 0, .ref 349, .none, .ref 350, .ref 351, .ref 352, .int 631 0, .int 170 0, .str "/claim/cut.py" 632], #[]⟩
noncomputable def o354 : Obj := fnO (subS 29 19) rfl (.type "function") none "Bank.make" 3 [] .none .none .none (.str "minismt.terms" 337) none (.ref 353) .none 0 #[]
noncomputable def o355 : Obj := ⟨.type "tuple", none, .seq #[] 0, #[]⟩
noncomputable def o356 : Obj := ⟨.none, none, .fields #[], #[]⟩
noncomputable def o357 : Obj := ⟨.type "tuple", none, .seq #[.str "self" 637, .str "op" 638, .str "args" 639, .str "sort" 640, .str "data" 641] 0, #[]⟩
noncomputable def o358 : Obj := ⟨.type "tuple", none, .seq #[] 0, #[]⟩
noncomputable def o359 : Obj := fnO (subS 29 20) rfl .none none "Bank.find_made" 0 [] .none .none .none .none none .none .none 0 #[]
noncomputable def o360 : Obj := ⟨.type "code", none, .fields #[.str "find_made" 634, .str "Bank.find_made" 635, .str "/claim/cut.py" 636, .int 182 0, .int 5 0, .int 0 0, .int 0 0, .int 3 0, .ref 355, .bool true, .int 181 0, .ref 356, .none, .ref 357, .ref 358, .ref 359, .int 642 0, .int 182 0, .str "/claim/cut.py" 643], #[]⟩
noncomputable def o361 : Obj := fnO (subS 29 20) rfl (.type "function") none "Bank.find_made" 3 [] .none .none .none (.str "minismt.terms" 337) none (.ref 360) .none 0 #[]
noncomputable def o362 : Obj := ⟨.type "tuple", none, .seq #[] 0, #[]⟩
noncomputable def o363 : Obj := ⟨.none, none, .fields #[], #[]⟩
noncomputable def o364 : Obj := ⟨.type "tuple", none, .seq #[.str "self" 648, .str "t" 649] 0, #[]⟩
noncomputable def o365 : Obj := ⟨.type "tuple", none, .seq #[] 0, #[]⟩
noncomputable def o366 : Obj := fnO (subS 29 21) rfl .none none "Bank.is_value" 0 [] .none .none .none .none none .none .none 0 #[]
noncomputable def o367 : Obj := ⟨.type "code", none, .fields #[.str "is_value" 645, .str "Bank.is_value" 646, .str "/claim/cut.py" 647, .int 185 0, .int 2 0, .int 0 0, .int 0 0, .int 3 0, .ref 362, .bool true, .int 181 0, .ref 363, .none, .ref 364, .ref 365, .ref 366, .int 650 0, .int 185 0, .str "/claim/cut.py" 651], #[]⟩
noncomputable def o368 : Obj := fnO (subS 29 21) rfl (.type "function") none "Bank.is_value" 3 [] .none .none .none (.str "minismt.terms" 337) none (.ref 367) .none 0 #[]
noncomputable def o369 : Obj := ⟨.type "tuple", none, .seq #[] 0, #[]⟩
noncomputable def o370 : Obj := ⟨.none, none, .fields #[], #[]⟩
noncomputable def o371 : Obj := ⟨.type "tuple", none, .seq #[.str "self" 656, .str "t" 657, .str "s" 658, .str "where" 659] 0, #[]⟩
noncomputable def o372 : Obj := ⟨.type "tuple", none, .seq #[] 0, #[]⟩
noncomputable def o373 : Obj := fnO (subS 29 22) rfl .none none "Bank.want" 0 [] .none .none .none .none none .none .none 0 #[]
noncomputable def o374 : Obj := ⟨.type "code", none, .fields #[.str "want" 653, .str "Bank.want" 654, .str "/claim/cut.py" 655, .int 188 0, .int 4 0, .int 0 0, .int 0 0, .int 3 0, .ref 369, .bool true, .int 181 0, .ref 370, .none, .ref 371, .ref 372, .ref 373, .int 660 0, .int 188 0, .str "/claim/cut.py" 661], #[]⟩
noncomputable def o375 : Obj := fnO (subS 29 22) rfl (.type "function") none "Bank.want" 3 [] .none .none .none (.str "minismt.terms" 337) none (.ref 374) .none 0 #[]
noncomputable def o376 : Obj := ⟨.type "tuple", none, .seq #[] 0, #[]⟩
noncomputable def o377 : Obj := ⟨.none, none, .fields #[], #[]⟩
noncomputable def o378 : Obj := ⟨.type "tuple", none, .seq #[.str "self" 666, .str "some" 667, .str "s" 668, .str "where" 669] 0, #[]⟩
noncomputable def o379 : Obj := ⟨.type "tuple", none, .seq #[] 0, #[]⟩
noncomputable def o380 : Obj := fnO (subS 29 23) rfl .none none "Bank.want_all" 0 [] .none .none .none .none none .none .none 0 #[]
noncomputable def o381 : Obj := ⟨.type "code", none, .fields #[.str "want_all" 663, .str "Bank.want_all" 664, .str "/claim/cut.py" 665, .int 192 0, .int 4 0, .int 0 0, .int 0 0, .int 3 0, .ref 376, .bool true, .int 181 0, .ref 377, .none, .ref 378, .ref 379, .ref 380, .int 670 0, .int 192 0, .str "/claim/cut.py" 671], #[]⟩
noncomputable def o382 : Obj := fnO (subS 29 23) rfl (.type "function") none "Bank.want_all" 3 [] .none .none .none (.str "minismt.terms" 337) none (.ref 381) .none 0 #[]
noncomputable def o383 : Obj := ⟨.type "tuple", none, .seq #[] 0, #[]⟩
noncomputable def o384 : Obj := ⟨.none, none, .fields #[], #[]⟩
noncomputable def o385 : Obj := ⟨.type "tuple", none, .seq #[.str "self" 676] 0, #[]⟩
noncomputable def o386 : Obj := ⟨.type "tuple", none, .seq #[] 0, #[]⟩
noncomputable def o387 : Obj := fnO (subS 29 24) rfl .none none "Bank.true_term" 0 [] .none .none .none .none none .none .none 0 #[]
noncomputable def o388 : Obj := ⟨.type "code", none, .fields #[.str "true_term" 673, .str "Bank.true_term" 674, .str "/claim/cut.py" 675, .int 195 0, .int 1 0, .int 0 0, .int 0 0, .int 3 0, .ref 383, .bool true, .int 181 0, .ref 384, .none, .ref 385, .ref 386, .ref 387, .int 677 0, .int 195 0, .str "/claim/cut.py" 678], #[]⟩
noncomputable def o389 : Obj := fnO (subS 29 24) rfl (.type "function") none "Bank.true_term" 3 [] .none .none .none (.str "minismt.terms" 337) none (.ref 388) .none 0 #[]
noncomputable def o390 : Obj := ⟨.type "tuple", none, .seq #[] 0, #[]⟩
noncomputable def o391 : Obj := ⟨.none, none, .fields #[], #[]⟩
noncomputable def o392 : Obj := ⟨.type "tuple", none, .seq #[.str "self" 683] 0, #[]⟩
noncomputable def o393 : Obj := ⟨.type "tuple", none, .seq #[] 0, #[]⟩
noncomputable def o394 : Obj := fnO (subS 29 25) rfl .none none "Bank.false_term" 0 [] .none .none .none .none none .none .none 0 #[]
noncomputable def o395 : Obj := ⟨.type "code", none, .fields #[.str "false_term" 680, .str "Bank.false_term" 681, .str "/claim/cut.py" 682, .int 198 0, .int 1 0, .int 0 0, .int 0 0, .int 3 0, .ref 390, .bool true, .int 181 0, .ref 391, .none, .ref 392, .ref 393, .ref 394, .int 684 0, .int 198 0, .str "/claim/cut.py" 685], #[]⟩
noncomputable def o396 : Obj := fnO (subS 29 25) rfl (.type "function") none "Bank.false_term" 3 [] .none .none .none (.str "minismt.terms" 337) none (.ref 395) .none 0 #[]
noncomputable def o397 : Obj := ⟨.type "tuple", none, .seq #[] 0, #[]⟩
noncomputable def o398 : Obj := ⟨.none, none, .fields #[], #[]⟩
noncomputable def o399 : Obj := ⟨.type "tuple", none, .seq #[.str "self" 690, .str "holds" 691] 0, #[]⟩
noncomputable def o400 : Obj := ⟨.type "tuple", none, .seq #[] 0, #[]⟩
noncomputable def o401 : Obj := fnO (subS 29 26) rfl .none none "Bank.bool_term" 0 [] .none .none .none .none none .none .none 0 #[]
noncomputable def o402 : Obj := ⟨.type "code", none, .fields #[.str "bool_term" 687, .str "Bank.bool_term" 688, .str "/claim/cut.py" 689, .int 201 0, .int 2 0, .int 0 0, .int 0 0, .int 3 0, .ref 397, .bool true, .int 181 0, .ref 398, .none, .ref 399, .ref 400, .ref 401, .int 692 0, .int 201 0, .str "/claim/cut.py" 693], #[]⟩
noncomputable def o403 : Obj := fnO (subS 29 26) rfl (.type "function") none "Bank.bool_term" 3 [] .none .none .none (.str "minismt.terms" 337) none (.ref 402) .none 0 #[]
noncomputable def o404 : Obj := ⟨.type "tuple", none, .seq #[] 0, #[]⟩
noncomputable def o405 : Obj := ⟨.none, none, .fields #[], #[]⟩
noncomputable def o406 : Obj := ⟨.type "tuple", none, .seq #[.str "self" 698, .str "t" 699] 0, #[]⟩
noncomputable def o407 : Obj := ⟨.type "tuple", none, .seq #[] 0, #[]⟩
noncomputable def o408 : Obj := fnO (subS 29 27) rfl .none none "Bank.parts" 0 [] .none .none .none .none none .none .none 0 #[]
noncomputable def o409 : Obj := ⟨.type "code", none, .fields #[.str "parts" 695, .str "Bank.parts" 696, .str "/claim/cut.py" 697, .int 204 0, .int 2 0, .int 0 0, .int 0 0, .int 3 0, .ref 404, .bool true, .int 181 0, .ref 405, .none, .ref 406, .ref 407, .ref 408, .int 700 0, .int 204 0, .str "/claim/cut.py" 701], #[]⟩
noncomputable def o410 : Obj := fnO (subS 29 27) rfl (.type "function") none "Bank.parts" 3 [] .none .none .none (.str "minismt.terms" 337) none (.ref 409) .none 0 #[]
noncomputable def o411 : Obj := ⟨.type "tuple", none, .seq #[] 0, #[]⟩
noncomputable def o412 : Obj := ⟨.none, none, .fields #[], #[]⟩
noncomputable def o413 : Obj := ⟨.type "tuple", none, .seq #[.str "self" 706, .str "some" 707, .str "found" 708, .str "done" 709, .str "root" 710, .str "stack" 711, .str "t" 712, .str "is_open" 713, .str "part" 714] 0, #[]⟩
noncomputable def o414 : Obj := ⟨.type "tuple", none, .seq #[] 0, #[]⟩
noncomputable def o415 : Obj := fnO (subS 29 28) rfl .none none "Bank.parts_of_all" 0 [] .none .none .none .none none .none .none 0 #[]
noncomputable def o416 : Obj := ⟨.type "code", none, .fields #[.str "parts_of_all" 703, .str "Bank.parts_of_all" 704, .str "/claim/cut.py" 705, .int 207 0, .int 2 0, .int 0 0, .int 0 0, .int 3 0, .ref 411, .bool true, .int 181 0, .ref 412, .none, .ref 413, .ref 414, .ref 415, .int 715 0, .int 207 0, .str "/claim/cut.py" 716], #[]⟩
noncomputable def o417 : Obj := fnO (subS 29 28) rfl (.type "function") none "Bank.parts_of_all" 3 [] .none .none .none (.str "minismt.terms" 337) none (.ref 416) .none 0 #[]
noncomputable def o418 : Obj := ⟨.type "tuple", none, .seq #[.str "false_number" 718, .str "fresh_count" 719, .str "fun_args" 720, .str "fun_names" 721, .str "fun_results" 722, .str "numbers" 723, .str "sort_names" 724, .str "sort_widths" 725, .str "term_args" 726, .str "term_datas" 727, .str "term_ops" 728, .str "term_sorts" 729, .str "true_number" 730] 0, #[]⟩
noncomputable def o419 (P : Params) : Obj := ⟨.type "dict", none, .dict #[⟨PyData.keyHash P "__module__", .str "__module__" 462, .str "minismt.terms" 337⟩, ⟨PyData.keyHash P "__firstlineno__", .str "__firstlineno__" 466, .int 96 465⟩, ⟨PyData.keyHash P "__init__", .str "__init__" 473, .ref 221⟩, ⟨PyData.keyHash P "sort_name", .str "sort_name" 481, .ref 228⟩, ⟨PyData.keyHash P "declare_sort", .str "declare_sort" 489, .ref 235⟩, ⟨PyData.keyHash P "width_of", .str "width_of" 497, .ref 242⟩, ⟨PyData.keyHash P "is_number_sort", .str "is_number_sort" 505, .ref 249⟩, ⟨PyData.keyHash P "is_free_sort", .str "is_free_sort" 513, .ref 256⟩, ⟨PyData.keyHash P "declare_fun", .str "declare_fun" 523, .ref 263⟩, ⟨PyData.keyHash P "fresh_fun", .str "fresh_fun" 533, .ref 270⟩, ⟨PyData.keyHash P "fresh_const", .str "fresh_const" 542, .ref 277⟩, ⟨PyData.keyHash P "fun_name", .str "fun_name" 550, .ref 284⟩, ⟨PyData.keyHash P "fun_arg_sorts", .str "fun_arg_sorts" 558, .ref 291⟩, ⟨PyData.keyHash P "fun_result", .str "fun_result" 566, .ref 298⟩, ⟨PyData.keyHash P "fun_count", .str "fun_count" 573, .ref 305⟩, ⟨PyData.keyHash P "op", .str "op" 581, .ref 312⟩, ⟨PyData.keyHash P "args", .str "args" 589, .ref 319⟩, ⟨PyData.keyHash P "sort", .str "sort" 597, .ref 326⟩, ⟨PyData.keyHash P "data", .str "data" 605, .ref 333⟩, ⟨PyData.keyHash P "width", .str "width" 613, .ref 340⟩, ⟨PyData.keyHash P "size", .str "size" 620, .ref 347⟩, ⟨PyData.keyHash P "make", .str "make" 633, .ref 354⟩, ⟨PyData.keyHash P "find_made", .str "find_made" 644, .ref 361⟩, ⟨PyData.keyHash P "is_value", .str "is_value" 652, .ref 368⟩, ⟨PyData.keyHash P "want", .str "want" 662, .ref 375⟩, ⟨PyData.keyHash P "want_all", .str "want_all" 672, .ref 382⟩, ⟨PyData.keyHash P "true_term", .str "true_term" 679, .ref 389⟩, ⟨PyData.keyHash P "false_term", .str "false_term" 686, .ref 396⟩, ⟨PyData.keyHash P "bool_term", .str "bool_term" 694, .ref 403⟩, ⟨PyData.keyHash P "parts", .str "parts" 702, .ref 410⟩, ⟨PyData.keyHash P "parts_of_all", .str "parts_of_all" 717, .ref 417⟩, ⟨PyData.keyHash P "__static_attributes__", .str "__static_attributes__" 731, .ref 418⟩, ⟨PyData.keyHash P "__dict__", .str "__dict__" 733, .ref 421⟩, ⟨PyData.keyHash P "__weakref__", .str "__weakref__" 735, .ref 422⟩, ⟨PyData.keyHash P "__doc__", .str "__doc__" 736, .none⟩] 4, #[]⟩
noncomputable def o420 : Obj := ⟨.type "type", none, .cls ⟨"Bank", [.type "object"], [.ref 420, .type "object"], 419, "Bank", true, [], [], false, none, false⟩, #[none, none, (some (.str "Bank" 455)), (some (.str "Bank" 463)), (some (.builtin "object.__new__")), (some (.bool true))]⟩
noncomputable def o421 : Obj := ⟨.type "getset_descriptor", none, .fields #[.str "__dict__" 732, .ref 420, .builtin "function.__dict__", .builtin "function.__dict__#set"], #[]⟩
noncomputable def o422 : Obj := ⟨.type "getset_descriptor", none, .fields #[.str "__weakref__" 734, .ref 420, .builtin "ExceptionGroup.__weakref__", .none], #[]⟩
noncomputable def o423 : Obj := ⟨.type "super", none, .fields #[.ref 420, .ref 420, .ref 420], #[]⟩
noncomputable def o424 : Obj := ⟨.type "builtin_function_or_method", none, .fields #[.builtin "object.__init_subclass__", .ref 420], #[]⟩
noncomputable def o3_3 (P : Params) : Obj := ⟨.type "dict", none, .dict #[⟨PyData.keyHash P "__name__", .str "__name__" 165, .str "minismt.terms" 337⟩, ⟨PyData.keyHash P "__doc__", .str "__doc__" 166, .none⟩, ⟨PyData.keyHash P "__package__", .str "__package__" 167, .none⟩, ⟨PyData.keyHash P "__loader__", .str "__loader__" 168, .builtin "__main__.__loader__#opaque"⟩, ⟨PyData.keyHash P "__spec__", .str "__spec__" 169, .none⟩, ⟨PyData.keyHash P "__annotations__", .str "__annotations__" 170, .ref 6⟩, ⟨PyData.keyHash P "__builtins__", .str "__builtins__" 171, .ref 4⟩, ⟨PyData.keyHash P "__file__", .str "__file__" 173, .str "/claim/cut.py" 172⟩, ⟨PyData.keyHash P "__cached__", .str "__cached__" 174, .none⟩, ⟨PyData.keyHash P "_wall", .str "_wall" 193, .ref 21⟩, ⟨PyData.keyHash P "SmtError", .str "SmtError" 233, .ref 47⟩, ⟨PyData.keyHash P "SortFault", .str "SortFault" 256, .ref 67⟩, ⟨PyData.keyHash P "LimitFault", .str "LimitFault" 279, .ref 86⟩, ⟨PyData.keyHash P "ModelFault", .str "ModelFault" 302, .ref 105⟩, ⟨PyData.keyHash P "gcd_of", .str "gcd_of" 312, .ref 114⟩, ⟨PyData.keyHash P "ratio", .str "ratio" 321, .ref 121⟩, ⟨PyData.keyHash P "mul", .str "mul" 329, .ref 128⟩, ⟨PyData.keyHash P "is_whole", .str "is_whole" 336, .ref 135⟩, ⟨PyData.keyHash P "mask_of", .str "mask_of" 345, .ref 142⟩, ⟨PyData.keyHash P "signed_of", .str "signed_of" 353, .ref 149⟩, ⟨PyData.keyHash P "one_value", .str "one_value" 362, .ref 156⟩, ⟨PyData.keyHash P "divided_value", .str "divided_value" 371, .ref 163⟩, ⟨PyData.keyHash P "rest_value", .str "rest_value" 379, .ref 170⟩, ⟨PyData.keyHash P "shifted_value", .str "shifted_value" 389, .ref 177⟩, ⟨PyData.keyHash P "two_value", .str "two_value" 399, .ref 184⟩, ⟨PyData.keyHash P "extract_value", .str "extract_value" 408, .ref 191⟩, ⟨PyData.keyHash P "concat_value", .str "concat_value" 417, .ref 198⟩, ⟨PyData.keyHash P "sign_extended", .str "sign_extended" 426, .ref 205⟩, ⟨PyData.keyHash P "BOOL", .str "BOOL" 428, .int 0 427⟩, ⟨PyData.keyHash P "INT", .str "INT" 430, .int 1 429⟩, ⟨PyData.keyHash P "REAL", .str "REAL" 432, .int 2 431⟩, ⟨PyData.keyHash P "WIDEST", .str "WIDEST" 434, .int 4096 433⟩, ⟨PyData.keyHash P "MOST_BITS", .str "MOST_BITS" 438, .int 65536 437⟩, ⟨PyData.keyHash P "BV_SAME", .str "BV_SAME" 449, .ref 206⟩, ⟨PyData.keyHash P "BV_ASK", .str "BV_ASK" 454, .ref 207⟩, ⟨PyData.keyHash P "Bank", .str "Bank" 738, .ref 420⟩, ⟨PyData.keyHash P "BoolBank", .str "BoolBank" 871, .ref 525⟩, ⟨PyData.keyHash P "want_small", .str "want_small" 878, .ref 534⟩, ⟨PyData.keyHash P "NumberBank", .str "NumberBank" 992, .ref 621⟩] 39, #[]⟩
noncomputable def o12_4 : Obj := ⟨.none, none, .fields #[.int 1 0, .int 0 0, .ref 20, .int 5 0, .int 0 0, .ref 28, .int 13 0, .int 0 0, .ref 56, .int 17 0, .int 0 0, .ref 75, .int 21 0, .int 0 0, .ref 94, .int 26 0, .int 0 0, .ref 113, .int 31 0, .int 0 0, .ref 120, .int 38 0, .int 0 0, .ref 127, .int 42 0, .int 0 0, .ref 134, .int 45 0, .int 0 0, .ref 141, .int 47 0, .int 0 0, .ref 148, .int 49 0, .int 0 0, .ref 155, .int 55 0, .int 0 0, .ref 162, .int 57 0, .int 0 0, .ref 169, .int 59 0, .int 0 0, .ref 176, .int 63 0, .int 0 0, .ref 183, .int 83 0, .int 0 0, .ref 190, .int 85 0, .int 0 0, .ref 197, .int 87 0, .int 0 0, .ref 204, .int 96 0, .int 0 0, .ref 213, .int 224 0, .int 0 0, .ref 430, .int 279 0, .int 0 0, .ref 533, .int 282 0, .int 0 0, .ref 540], #[]⟩
noncomputable def o420_1 : Obj := ⟨.type "type", none, .cls ⟨"Bank", [.type "object"], [.ref 420, .type "object"], 419, "Bank", true, [], [.ref 525], false, none, false⟩, #[none, none, (some (.str "Bank" 455)), (some (.str "Bank" 463)), (some (.builtin "object.__new__")), (some (.bool true))]⟩
noncomputable def o425 : Obj := ⟨.type "tuple", none, .seq #[.ref 420] 0, #[]⟩
noncomputable def o426 : Obj := ⟨.type "builtin_function_or_method", none, .fields #[.builtin "type.__prepare__", .type "type"], #[]⟩
noncomputable def o427 (P : Params) : Obj := ⟨.type "dict", none, .dict #[⟨PyData.keyHash P "__module__", .str "__module__" 746, .str "minismt.terms" 337⟩, ⟨PyData.keyHash P "__qualname__", .str "__qualname__" 748, .str "BoolBank" 747⟩, ⟨PyData.keyHash P "__firstlineno__", .str "__firstlineno__" 750, .int 224 749⟩, ⟨PyData.keyHash P "not_of", .str "not_of" 758, .ref 438⟩, ⟨PyData.keyHash P "and_of", .str "and_of" 766, .ref 445⟩, ⟨PyData.keyHash P "or_of", .str "or_of" 774, .ref 452⟩, ⟨PyData.keyHash P "xor_of", .str "xor_of" 783, .ref 459⟩, ⟨PyData.keyHash P "implies_of", .str "implies_of" 792, .ref 466⟩, ⟨PyData.keyHash P "iff", .str "iff" 801, .ref 473⟩, ⟨PyData.keyHash P "eq", .str "eq" 810, .ref 480⟩, ⟨PyData.keyHash P "distinct", .str "distinct" 818, .ref 487⟩, ⟨PyData.keyHash P "ite", .str "ite" 828, .ref 494⟩, ⟨PyData.keyHash P "app", .str "app" 840, .ref 501⟩, ⟨PyData.keyHash P "folded", .str "folded" 849, .ref 508⟩, ⟨PyData.keyHash P "with_args", .str "with_args" 858, .ref 515⟩, ⟨PyData.keyHash P "replaced", .str "replaced" 867, .ref 522⟩, ⟨PyData.keyHash P "__static_attributes__", .str "__static_attributes__" 868, .ref 523⟩] 17, #[]⟩
noncomputable def o428 : Obj := ⟨.type "tuple", none, .seq #[] 0, #[]⟩
noncomputable def o429 : Obj := ⟨.none, none, .fields #[.int 226 0, .int 4 0, .ref 437, .int 236 0, .int 4 0, .ref 444, .int 239 0, .int 4 0, .ref 451, .int 242 0, .int 4 0, .ref 458, .int 245 0, .int 4 0, .ref 465, .int 248 0, .int 4 0, .ref 472, .int 251 0, .int 4 0, .ref 479, .int 257 0, .int 4 0, .ref 486, .int 260 0, .int 4 0, .ref 493, .int 263 0, .int 4 0, .ref 500, .int 271 0, .int 4 0, .ref 507, .int 274 0, .int 4 0, .ref 514, .int 277 0, .int 4 0, .ref 521], #[]⟩
noncomputable def o430 : Obj := ⟨.type "code", none, .fields #[.str "BoolBank" 741, .str "BoolBank" 742, .str "/claim/cut.py" 743, .int 224 0, .int 0 0, .int 0 0, .int 0 0, .int 0 0, .ref 428, .bool false, .int 181 0, .ref 429, .none, .none, .none, .none, .int 744 0, .int 224 0, .str "/claim/cut.py" 745], #[]⟩
noncomputable def o431 : Obj := ⟨.type "frame", none, .plain, #[(some (.ref 430)), (some (.ref 3)), (some (.ref 427)), none, (some (.str "minismt.terms" 337)), none, (some (.ref 0))]⟩
noncomputable def o432 : Obj := ⟨.type "tuple", none, .seq #[] 0, #[]⟩
noncomputable def o433 : Obj := ⟨.none, none, .fields #[], #[]⟩
noncomputable def o434 : Obj := ⟨.type "tuple", none, .seq #[.str "self" 754, .str "t" 755] 0, #[]⟩
noncomputable def o435 : Obj := ⟨.type "tuple", none, .seq #[] 0, #[]⟩
noncomputable def o436 : Obj := fnO (subS 30 0) rfl .none none "BoolBank.not_of" 0 [] .none .none .none .none none .none .none 0 #[]
noncomputable def o437 : Obj := ⟨.type "code", none, .fields #[.str "not_of" 751, .str "BoolBank.not_of" 752, .str "/claim/cut.py" 753, .int 226 0, .int 2 0, .int 0 0, .int 0 0, .int 3 0, .ref 432, .bool true, .int 181 0, .ref 433, .none, .ref 434, .ref 435, .ref 436, .int 756 0, .int 226 0, .str "/claim/cut.py" 757], #[]⟩
noncomputable def o438 : Obj := fnO (subS 30 0) rfl (.type "function") none "BoolBank.not_of" 3 [] .none .none .none (.str "minismt.terms" 337) none (.ref 437) .none 0 #[]
noncomputable def o439 : Obj := ⟨.type "tuple", none, .seq #[] 0, #[]⟩
noncomputable def o440 : Obj := ⟨.none, none, .fields #[], #[]⟩
noncomputable def o441 : Obj := ⟨.type "tuple", none, .seq #[.str "self" 762, .str "some" 763] 0, #[]⟩
noncomputable def o442 : Obj := ⟨.type "tuple", none, .seq #[] 0, #[]⟩
noncomputable def o443 : Obj := fnO (subS 30 1) rfl .none none "BoolBank.and_of" 0 [] .none .none .none .none none .none .none 0 #[]
noncomputable def o444 : Obj := ⟨.type "code", none, .fields #[.str "and_of" 759, .str "BoolBank.and_of" 760, .str "/claim/cut.py" 761, .int 236 0, .int 2 0, .int 0 0, .int 0 0, .int 3 0, .ref 439, .bool true, .int 181 0, .ref 440, .none, .ref 441, .ref 442, .ref 443, .int 764 0, .int 236 0, .str "/claim/cut.py" 765], #[]⟩
noncomputable def o445 : Obj := fnO (subS 30 1) rfl (.type "function") none "BoolBank.and_of" 3 [] .none .none .none (.str "minismt.terms" 337) none (.ref 444) .none 0 #[]
noncomputable def o446 : Obj := ⟨.type "tuple", none, .seq #[] 0, #[]⟩
noncomputable def o447 : Obj := ⟨.none, none, .fields #[], #[]⟩
noncomputable def o448 : Obj := ⟨.type "tuple", none, .seq #[.str "self" 770, .str "some" 771] 0, #[]⟩
noncomputable def o449 : Obj := ⟨.type "tuple", none, .seq #[] 0, #[]⟩
noncomputable def o450 : Obj := fnO (subS 30 2) rfl .none none "BoolBank.or_of" 0 [] .none .none .none .none none .none .none 0 #[]
noncomputable def o451 : Obj := ⟨.type "code", none, .fields #[.str "or_of" 767, .str "BoolBank.or_of" 768, .str "/claim/cut.py" 769, .int 239 0, .int 2 0, .int 0 0, .int 0 0, .int 3 0, .ref 446, .bool true, .int 181 0, .ref 447, .none, .ref 448, .ref 449, .ref 450, .int 772 0, .int 239 0, .str "/claim/cut.py" 773], #[]⟩
noncomputable def o452 : Obj := fnO (subS 30 2) rfl (.type "function") none "BoolBank.or_of" 3 [] .none .none .none (.str "minismt.terms" 337) none (.ref 451) .none 0 #[]
noncomputable def o453 : Obj := ⟨.type "tuple", none, .seq #[] 0, #[]⟩
noncomputable def o454 : Obj := ⟨.none, none, .fields #[], #[]⟩
noncomputable def o455 : Obj := ⟨.type "tuple", none, .seq #[.str "self" 778, .str "a" 779, .str "b" 780] 0, #[]⟩
noncomputable def o456 : Obj := ⟨.type "tuple", none, .seq #[] 0, #[]⟩
noncomputable def o457 : Obj := fnO (subS 30 3) rfl .none none "BoolBank.xor_of" 0 [] .none .none .none .none none .none .none 0 #[]
noncomputable def o458 : Obj := ⟨.type "code", none, .fields #[.str "xor_of" 775, .str "BoolBank.xor_of" 776, .str "/claim/cut.py" 777, .int 242 0, .int 3 0, .int 0 0, .int 0 0, .int 3 0, .ref 453, .bool true, .int 181 0, .ref 454, .none, .ref 455, .ref 456, .ref 457, .int 781 0, .int 242 0, .str "/claim/cut.py" 782], #[]⟩
noncomputable def o459 : Obj := fnO (subS 30 3) rfl (.type "function") none "BoolBank.xor_of" 3 [] .none .none .none (.str "minismt.terms" 337) none (.ref 458) .none 0 #[]
noncomputable def o460 : Obj := ⟨.type "tuple", none, .seq #[] 0, #[]⟩
noncomputable def o461 : Obj := ⟨.none, none, .fields #[], #[]⟩
noncomputable def o462 : Obj := ⟨.type "tuple", none, .seq #[.str "self" 787, .str "a" 788, .str "b" 789] 0, #[]⟩
noncomputable def o463 : Obj := ⟨.type "tuple", none, .seq #[] 0, #[]⟩
noncomputable def o464 : Obj := fnO (subS 30 4) rfl .none none "BoolBank.implies_of" 0 [] .none .none .none .none none .none .none 0 #[]
noncomputable def o465 : Obj := ⟨.type "code", none, .fields #[.str "implies_of" 784, .str "BoolBank.implies_of" 785, .str "/claim/cut.py" 786, .int 245 0, .int 3 0, .int 0 0, .int 0 0, .int 3 0, .ref 460, .bool true, .int 181 0, .ref 461, .none, .ref 462, .ref 463, .ref 464, .int 790 0, .int 245 0, .str "/claim/cut.py" 791], #[]⟩
noncomputable def o466 : Obj := fnO (subS 30 4) rfl (.type "function") none "BoolBank.implies_of" 3 [] .none .none .none (.str "minismt.terms" 337) none (.ref 465) .none 0 #[]
noncomputable def o467 : Obj := ⟨.type "tuple", none, .seq #[] 0, #[]⟩
noncomputable def o468 : Obj := ⟨.none, none, .fields #[], #[]⟩
noncomputable def o469 : Obj := ⟨.type "tuple", none, .seq #[.str "self" 796, .str "a" 797, .str "b" 798] 0, #[]⟩
noncomputable def o470 : Obj := ⟨.type "tuple", none, .seq #[] 0, #[]⟩
noncomputable def o471 : Obj := fnO (subS 30 5) rfl .none none "BoolBank.iff" 0 [] .none .none .none .none none .none .none 0 #[]
noncomputable def o472 : Obj := ⟨.type "code", none, .fields #[.str "iff" 793, .str "BoolBank.iff" 794, .str "/claim/cut.py" 795, .int 248 0, .int 3 0, .int 0 0, .int 0 0, .int 3 0, .ref 467, .bool true, .int 181 0, .ref 468, .none, .ref 469, .ref 470, .ref 471, .int 799 0, .int 248 0, .str "/claim/cut.py" 800], #[]⟩
noncomputable def o473 : Obj := fnO (subS 30 5) rfl (.type "function") none "BoolBank.iff" 3 [] .none .none .none (.str "minismt.terms" 337) none (.ref 472) .none 0 #[]
noncomputable def o474 : Obj := ⟨.type "tuple", none, .seq #[] 0, #[]⟩
noncomputable def o475 : Obj := ⟨.none, none, .fields #[], #[]⟩
noncomputable def o476 : Obj := ⟨.type "tuple", none, .seq #[.str "self" 805, .str "a" 806, .str "b" 807] 0, #[]⟩
noncomputable def o477 : Obj := ⟨.type "tuple", none, .seq #[] 0, #[]⟩
noncomputable def o478 : Obj := fnO (subS 30 6) rfl .none none "BoolBank.eq" 0 [] .none .none .none .none none .none .none 0 #[]
noncomputable def o479 : Obj := ⟨.type "code", none, .fields #[.str "eq" 802, .str "BoolBank.eq" 803, .str "/claim/cut.py" 804, .int 251 0, .int 3 0, .int 0 0, .int 0 0, .int 3 0, .ref 474, .bool true, .int 181 0, .ref 475, .none, .ref 476, .ref 477, .ref 478, .int 808 0, .int 251 0, .str "/claim/cut.py" 809], #[]⟩
noncomputable def o480 : Obj := fnO (subS 30 6) rfl (.type "function") none "BoolBank.eq" 3 [] .none .none .none (.str "minismt.terms" 337) none (.ref 479) .none 0 #[]
noncomputable def o481 : Obj := ⟨.type "tuple", none, .seq #[] 0, #[]⟩
noncomputable def o482 : Obj := ⟨.none, none, .fields #[], #[]⟩
noncomputable def o483 : Obj := ⟨.type "tuple", none, .seq #[.str "self" 814, .str "some" 815] 0, #[]⟩
noncomputable def o484 : Obj := ⟨.type "tuple", none, .seq #[] 0, #[]⟩
noncomputable def o485 : Obj := fnO (subS 30 7) rfl .none none "BoolBank.distinct" 0 [] .none .none .none .none none .none .none 0 #[]
noncomputable def o486 : Obj := ⟨.type "code", none, .fields #[.str "distinct" 811, .str "BoolBank.distinct" 812, .str "/claim/cut.py" 813, .int 257 0, .int 2 0, .int 0 0, .int 0 0, .int 3 0, .ref 481, .bool true, .int 181 0, .ref 482, .none, .ref 483, .ref 484, .ref 485, .int 816 0, .int 257 0, .str "/claim/cut.py" 817], #[]⟩
noncomputable def o487 : Obj := fnO (subS 30 7) rfl (.type "function") none "BoolBank.distinct" 3 [] .none .none .none (.str "minismt.terms" 337) none (.ref 486) .none 0 #[]
noncomputable def o488 : Obj := ⟨.type "tuple", none, .seq #[] 0, #[]⟩
noncomputable def o489 : Obj := ⟨.none, none, .fields #[], #[]⟩
noncomputable def o490 : Obj := ⟨.type "tuple", none, .seq #[.str "self" 822, .str "c" 823, .str "a" 824, .str "b" 825] 0, #[]⟩
noncomputable def o491 : Obj := ⟨.type "tuple", none, .seq #[] 0, #[]⟩
noncomputable def o492 : Obj := fnO (subS 30 8) rfl .none none "BoolBank.ite" 0 [] .none .none .none .none none .none .none 0 #[]
noncomputable def o493 : Obj := ⟨.type "code", none, .fields #[.str "ite" 819, .str "BoolBank.ite" 820, .str "/claim/cut.py" 821, .int 260 0, .int 4 0, .int 0 0, .int 0 0, .int 3 0, .ref 488, .bool true, .int 181 0, .ref 489, .none, .ref 490, .ref 491, .ref 492, .int 826 0, .int 260 0, .str "/claim/cut.py" 827], #[]⟩
noncomputable def o494 : Obj := fnO (subS 30 8) rfl (.type "function") none "BoolBank.ite" 3 [] .none .none .none (.str "minismt.terms" 337) none (.ref 493) .none 0 #[]
noncomputable def o495 : Obj := ⟨.type "tuple", none, .seq #[] 0, #[]⟩
noncomputable def o496 : Obj := ⟨.none, none, .fields #[], #[]⟩
noncomputable def o497 : Obj := ⟨.type "tuple", none, .seq #[.str "self" 832, .str "f" 833, .str "some" 834, .str "sorts" 835, .str "t" 836, .str "s" 837] 0, #[]⟩
noncomputable def o498 : Obj := ⟨.type "tuple", none, .seq #[] 0, #[]⟩
noncomputable def o499 : Obj := fnO (subS 30 9) rfl .none none "BoolBank.app" 0 [] .none .none .none .none none .none .none 0 #[]
noncomputable def o500 : Obj := ⟨.type "code", none, .fields #[.str "app" 829, .str "BoolBank.app" 830, .str "/claim/cut.py" 831, .int 263 0, .int 3 0, .int 0 0, .int 0 0, .int 3 0, .ref 495, .bool true, .int 181 0, .ref 496, .none, .ref 497, .ref 498, .ref 499, .int 838 0, .int 263 0, .str "/claim/cut.py" 839], #[]⟩
noncomputable def o501 : Obj := fnO (subS 30 9) rfl (.type "function") none "BoolBank.app" 3 [] .none .none .none (.str "minismt.terms" 337) none (.ref 500) .none 0 #[]
noncomputable def o502 : Obj := ⟨.type "tuple", none, .seq #[] 0, #[]⟩
noncomputable def o503 : Obj := ⟨.none, none, .fields #[], #[]⟩
noncomputable def o504 : Obj := ⟨.type "tuple", none, .seq #[.str "self" 844, .str "t" 845, .str "args" 846] 0, #[]⟩
noncomputable def o505 : Obj := ⟨.type "tuple", none, .seq #[] 0, #[]⟩
noncomputable def o506 : Obj := fnO (subS 30 10) rfl .none none "BoolBank.folded" 0 [] .none .none .none .none none .none .none 0 #[]
noncomputable def o507 : Obj := ⟨.type "code", none, .fields #[.str "folded" 841, .str "BoolBank.folded" 842, .str "/claim/cut.py" 843, .int 271 0, .int 3 0, .int 0 0, .int 0 0, .int 3 0, .ref 502, .bool true, .int 181 0, .ref 503, .none, .ref 504, .ref 505, .ref 506, .int 847 0, .int 271 0, .str "/claim/cut.py" 848], #[]⟩
noncomputable def o508 : Obj := fnO (subS 30 10) rfl (.type "function") none "BoolBank.folded" 3 [] .none .none .none (.str "minismt.terms" 337) none (.ref 507) .none 0 #[]
noncomputable def o509 : Obj := ⟨.type "tuple", none, .seq #[] 0, #[]⟩
noncomputable def o510 : Obj := ⟨.none, none, .fields #[], #[]⟩
noncomputable def o511 : Obj := ⟨.type "tuple", none, .seq #[.str "self" 853, .str "t" 854, .str "args" 855] 0, #[]⟩
noncomputable def o512 : Obj := ⟨.type "tuple", none, .seq #[] 0, #[]⟩
noncomputable def o513 : Obj := fnO (subS 30 11) rfl .none none "BoolBank.with_args" 0 [] .none .none .none .none none .none .none 0 #[]
noncomputable def o514 : Obj := ⟨.type "code", none, .fields #[.str "with_args" 850, .str "BoolBank.with_args" 851, .str "/claim/cut.py" 852, .int 274 0, .int 3 0, .int 0 0, .int 0 0, .int 3 0, .ref 509, .bool true, .int 181 0, .ref 510, .none, .ref 511, .ref 512, .ref 513, .int 856 0, .int 274 0, .str "/claim/cut.py" 857], #[]⟩
noncomputable def o515 : Obj := fnO (subS 30 11) rfl (.type "function") none "BoolBank.with_args" 3 [] .none .none .none (.str "minismt.terms" 337) none (.ref 514) .none 0 #[]
noncomputable def o516 : Obj := ⟨.type "tuple", none, .seq #[] 0, #[]⟩
noncomputable def o517 : Obj := ⟨.none, none, .fields #[], #[]⟩
noncomputable def o518 : Obj := ⟨.type "tuple", none, .seq #[.str "self" 862, .str "t" 863, .str "table" 864] 0, #[]⟩
noncomputable def o519 : Obj := ⟨.type "tuple", none, .seq #[] 0, #[]⟩
noncomputable def o520 : Obj := fnO (subS 30 12) rfl .none none "BoolBank.replaced" 0 [] .none .none .none .none none .none .none 0 #[]
noncomputable def o521 : Obj := ⟨.type "code", none, .fields #[.str "replaced" 859, .str "BoolBank.replaced" 860, .str "/claim/cut.py" 861, .int 277 0, .int 3 0, .int 0 0, .int 0 0, .int 3 0, .ref 516, .bool true, .int 181 0, .ref 517, .none, .ref 518, .ref 519, .ref 520, .int 865 0, .int 277 0, .str "/claim/cut.py" 866], #[]⟩
noncomputable def o522 : Obj := fnO (subS 30 12) rfl (.type "function") none "BoolBank.replaced" 3 [] .none .none .none (.str "minismt.terms" 337) none (.ref 521) .none 0 #[]
noncomputable def o523 : Obj := ⟨.type "tuple", none, .seq #[] 0, #[]⟩
noncomputable def o524 (P : Params) : Obj := ⟨.type "dict", none, .dict #[⟨PyData.keyHash P "__module__", .str "__module__" 746, .str "minismt.terms" 337⟩, ⟨PyData.keyHash P "__firstlineno__", .str "__firstlineno__" 750, .int 224 749⟩, ⟨PyData.keyHash P "not_of", .str "not_of" 758, .ref 438⟩, ⟨PyData.keyHash P "and_of", .str "and_of" 766, .ref 445⟩, ⟨PyData.keyHash P "or_of", .str "or_of" 774, .ref 452⟩, ⟨PyData.keyHash P "xor_of", .str "xor_of" 783, .ref 459⟩, ⟨PyData.keyHash P "implies_of", .str "implies_of" 792, .ref 466⟩, ⟨PyData.keyHash P "iff", .str "iff" 801, .ref 473⟩, ⟨PyData.keyHash P "eq", .str "eq" 810, .ref 480⟩, ⟨PyData.keyHash P "distinct", .str "distinct" 818, .ref 487⟩, ⟨PyData.keyHash P "ite", .str "ite" 828, .ref 494⟩, ⟨PyData.keyHash P "app", .str "app" 840, .ref 501⟩, ⟨PyData.keyHash P "folded", .str "folded" 849, .ref 508⟩, ⟨PyData.keyHash P "with_args", .str "with_args" 858, .ref 515⟩, ⟨PyData.keyHash P "replaced", .str "replaced" 867, .ref 522⟩, ⟨PyData.keyHash P "__static_attributes__", .str "__static_attributes__" 868, .ref 523⟩, ⟨PyData.keyHash P "__doc__", .str "__doc__" 869, .none⟩] 2, #[]⟩
noncomputable def o525 : Obj := ⟨.type "type", none, .cls ⟨"BoolBank", [.ref 420], [.ref 525, .ref 420, .type "object"], 524, "BoolBank", true, [], [.ref 621], false, none, false⟩, #[(some (.ref 425)), none, (some (.str "BoolBank" 739)), (some (.str "BoolBank" 747)), (some (.builtin "object.__new__")), (some (.bool true))]⟩
noncomputable def o526 : Obj := ⟨.type "super", none, .fields #[.ref 525, .ref 525, .ref 525], #[]⟩
noncomputable def o527 : Obj := ⟨.type "builtin_function_or_method", none, .fields #[.builtin "object.__init_subclass__", .ref 525], #[]⟩
noncomputable def o528 : Obj := ⟨.type "tuple", none, .seq #[] 0, #[]⟩
noncomputable def o529 : Obj := ⟨.none, none, .fields #[], #[]⟩
noncomputable def o530 : Obj := ⟨.type "tuple", none, .seq #[.str "value" 875] 0, #[]⟩
noncomputable def o531 : Obj := ⟨.type "tuple", none, .seq #[] 0, #[]⟩
noncomputable def o532 : Obj := fnO (pickS 31) rfl .none none "want_small" 0 [] .none .none .none .none none .none .none 0 #[]
noncomputable def o533 : Obj := ⟨.type "code", none, .fields #[.str "want_small" 872, .str "want_small" 873, .str "/claim/cut.py" 874, .int 279 0, .int 1 0, .int 0 0, .int 0 0, .int 3 0, .ref 528, .bool true, .int 181 0, .ref 529, .none, .ref 530, .ref 531, .ref 532, .int 876 0, .int 279 0, .str "/claim/cut.py" 877], #[]⟩
noncomputable def o534 : Obj := fnO (pickS 31) rfl (.type "function") none "want_small" 3 [] .none .none .none (.str "minismt.terms" 337) none (.ref 533) .none 0 #[]
noncomputable def o535 : Obj := ⟨.type "tuple", none, .seq #[.ref 525] 0, #[]⟩
noncomputable def o536 : Obj := ⟨.type "builtin_function_or_method", none, .fields #[.builtin "type.__prepare__", .type "type"], #[]⟩
noncomputable def o537 (P : Params) : Obj := ⟨.type "dict", none, .dict #[⟨PyData.keyHash P "__module__", .str "__module__" 886, .str "minismt.terms" 337⟩, ⟨PyData.keyHash P "__qualname__", .str "__qualname__" 888, .str "NumberBank" 887⟩, ⟨PyData.keyHash P "__firstlineno__", .str "__firstlineno__" 890, .int 282 889⟩, ⟨PyData.keyHash P "num", .str "num" 899, .ref 548⟩, ⟨PyData.keyHash P "want_number", .str "want_number" 908, .ref 555⟩, ⟨PyData.keyHash P "plus", .str "plus" 916, .ref 562⟩, ⟨PyData.keyHash P "times_num", .str "times_num" 926, .ref 569⟩, ⟨PyData.keyHash P "times", .str "times" 935, .ref 576⟩, ⟨PyData.keyHash P "over_num", .str "over_num" 944, .ref 583⟩, ⟨PyData.keyHash P "negative", .str "negative" 952, .ref 590⟩, ⟨PyData.keyHash P "minus", .str "minus" 961, .ref 597⟩, ⟨PyData.keyHash P "le", .str "le" 970, .ref 604⟩, ⟨PyData.keyHash P "lt", .str "lt" 979, .ref 611⟩, ⟨PyData.keyHash P "with_args", .str "with_args" 988, .ref 618⟩, ⟨PyData.keyHash P "__static_attributes__", .str "__static_attributes__" 989, .ref 619⟩] 15, #[]⟩
noncomputable def o538 : Obj := ⟨.type "tuple", none, .seq #[] 0, #[]⟩
noncomputable def o539 : Obj := ⟨.none, none, .fields #[.int 284 0, .int 4 0, .ref 547, .int 292 0, .int 4 0, .ref 554, .int 296 0, .int 4 0, .ref 561, .int 299 0, .int 4 0, .ref 568, .int 306 0, .int 4 0, .ref 575, .int 315 0, .int 4 0, .ref 582, .int 318 0, .int 4 0, .ref 589, .int 321 0, .int 4 0, .ref 596, .int 324 0, .int 4 0, .ref 603, .int 327 0, .int 4 0, .ref 610, .int 330 0, .int 4 0, .ref 617], #[]⟩
noncomputable def o540 : Obj := ⟨.type "code", none, .fields #[.str "NumberBank" 881, .str "NumberBank" 882, .str "/claim/cut.py" 883, .int 282 0, .int 0 0, .int 0 0, .int 0 0, .int 0 0, .ref 538, .bool false, .int 181 0, .ref 539, .none, .none, .none, .none, .int 884 0, .int 282 0, .str "/claim/cut.py" 885], #[]⟩
noncomputable def o541 : Obj := ⟨.type "frame", none, .plain, #[(some (.ref 540)), (some (.ref 3)), (some (.ref 537)), none, (some (.str "minismt.terms" 337)), none, (some (.ref 0))]⟩
noncomputable def o542 : Obj := ⟨.type "tuple", none, .seq #[] 0, #[]⟩
noncomputable def o543 : Obj := ⟨.none, none, .fields #[], #[]⟩
noncomputable def o544 : Obj := ⟨.type "tuple", none, .seq #[.str "self" 894, .str "value" 895, .str "s" 896] 0, #[]⟩
noncomputable def o545 : Obj := ⟨.type "tuple", none, .seq #[] 0, #[]⟩
noncomputable def o546 : Obj := fnO (subS 32 0) rfl .none none "NumberBank.num" 0 [] .none .none .none .none none .none .none 0 #[]
noncomputable def o547 : Obj := ⟨.type "code", none, .fields #[.str "num" 891, .str "NumberBank.num" 892, .str "/claim/cut.py" 893, .int 284 0, .int 3 0, .int 0 0, .int 0 0, .int 3 0, .ref 542, .bool true, .int 181 0, .ref 543, .none, .ref 544, .ref 545, .ref 546, .int 897 0, .int 284 0, .str "/claim/cut.py" 898], #[]⟩
noncomputable def o548 : Obj := fnO (subS 32 0) rfl (.type "function") none "NumberBank.num" 3 [] .none .none .none (.str "minismt.terms" 337) none (.ref 547) .none 0 #[]
noncomputable def o549 : Obj := ⟨.type "tuple", none, .seq #[] 0, #[]⟩
noncomputable def o550 : Obj := ⟨.none, none, .fields #[], #[]⟩
noncomputable def o551 : Obj := ⟨.type "tuple", none, .seq #[.str "self" 903, .str "t" 904, .str "where" 905] 0, #[]⟩
noncomputable def o552 : Obj := ⟨.type "tuple", none, .seq #[] 0, #[]⟩
noncomputable def o553 : Obj := fnO (subS 32 1) rfl .none none "NumberBank.want_number" 0 [] .none .none .none .none none .none .none 0 #[]
noncomputable def o554 : Obj := ⟨.type "code", none, .fields #[.str "want_number" 900, .str "NumberBank.want_number" 901, .str "/claim/cut.py" 902, .int 292 0, .int 3 0, .int 0 0, .int 0 0, .int 3 0, .ref 549, .bool true, .int 181 0, .ref 550, .none, .ref 551, .ref 552, .ref 553, .int 906 0, .int 292 0, .str "/claim/cut.py" 907], #[]⟩
noncomputable def o555 : Obj := fnO (subS 32 1) rfl (.type "function") none "NumberBank.want_number" 3 [] .none .none .none (.str "minismt.terms" 337) none (.ref 554) .none 0 #[]
noncomputable def o556 : Obj := ⟨.type "tuple", none, .seq #[] 0, #[]⟩
noncomputable def o557 : Obj := ⟨.none, none, .fields #[], #[]⟩
noncomputable def o558 : Obj := ⟨.type "tuple", none, .seq #[.str "self" 912, .str "some" 913] 0, #[]⟩
noncomputable def o559 : Obj := ⟨.type "tuple", none, .seq #[] 0, #[]⟩
noncomputable def o560 : Obj := fnO (subS 32 2) rfl .none none "NumberBank.plus" 0 [] .none .none .none .none none .none .none 0 #[]
noncomputable def o561 : Obj := ⟨.type "code", none, .fields #[.str "plus" 909, .str "NumberBank.plus" 910, .str "/claim/cut.py" 911, .int 296 0, .int 2 0, .int 0 0, .int 0 0, .int 3 0, .ref 556, .bool true, .int 181 0, .ref 557, .none, .ref 558, .ref 559, .ref 560, .int 914 0, .int 296 0, .str "/claim/cut.py" 915], #[]⟩
noncomputable def o562 : Obj := fnO (subS 32 2) rfl (.type "function") none "NumberBank.plus" 3 [] .none .none .none (.str "minismt.terms" 337) none (.ref 561) .none 0 #[]
noncomputable def o563 : Obj := ⟨.type "tuple", none, .seq #[] 0, #[]⟩
noncomputable def o564 : Obj := ⟨.none, none, .fields #[], #[]⟩
noncomputable def o565 : Obj := ⟨.type "tuple", none, .seq #[.str "self" 920, .str "value" 921, .str "t" 922, .str "s" 923] 0, #[]⟩
noncomputable def o566 : Obj := ⟨.type "tuple", none, .seq #[] 0, #[]⟩
noncomputable def o567 : Obj := fnO (subS 32 3) rfl .none none "NumberBank.times_num" 0 [] .none .none .none .none none .none .none 0 #[]
noncomputable def o568 : Obj := ⟨.type "code", none, .fields #[.str "times_num" 917, .str "NumberBank.times_num" 918, .str "/claim/cut.py" 919, .int 299 0, .int 3 0, .int 0 0, .int 0 0, .int 3 0, .ref 563, .bool true, .int 181 0, .ref 564, .none, .ref 565, .ref 566, .ref 567, .int 924 0, .int 299 0, .str "/claim/cut.py" 925], #[]⟩
noncomputable def o569 : Obj := fnO (subS 32 3) rfl (.type "function") none "NumberBank.times_num" 3 [] .none .none .none (.str "minismt.terms" 337) none (.ref 568) .none 0 #[]
noncomputable def o570 : Obj := ⟨.type "tuple", none, .seq #[] 0, #[]⟩
noncomputable def o571 : Obj := ⟨.none, none, .fields #[], #[]⟩
noncomputable def o572 : Obj := ⟨.type "tuple", none, .seq #[.str "self" 930, .str "a" 931, .str "b" 932] 0, #[]⟩
noncomputable def o573 : Obj := ⟨.type "tuple", none, .seq #[] 0, #[]⟩
noncomputable def o574 : Obj := fnO (subS 32 4) rfl .none none "NumberBank.times" 0 [] .none .none .none .none none .none .none 0 #[]
noncomputable def o575 : Obj := ⟨.type "code", none, .fields #[.str "times" 927, .str "NumberBank.times" 928, .str "/claim/cut.py" 929, .int 306 0, .int 3 0, .int 0 0, .int 0 0, .int 3 0, .ref 570, .bool true, .int 181 0, .ref 571, .none, .ref 572, .ref 573, .ref 574, .int 933 0, .int 306 0, .str "/claim/cut.py" 934], #[]⟩
noncomputable def o576 : Obj := fnO (subS 32 4) rfl (.type "function") none "NumberBank.times" 3 [] .none .none .none (.str "minismt.terms" 337) none (.ref 575) .none 0 #[]
noncomputable def o577 : Obj := ⟨.type "tuple", none, .seq #[] 0, #[]⟩
noncomputable def o578 : Obj := ⟨.none, none, .fields #[], #[]⟩
noncomputable def o579 : Obj := ⟨.type "tuple", none, .seq #[.str "self" 939, .str "t" 940, .str "value" 941] 0, #[]⟩
noncomputable def o580 : Obj := ⟨.type "tuple", none, .seq #[] 0, #[]⟩
noncomputable def o581 : Obj := fnO (subS 32 5) rfl .none none "NumberBank.over_num" 0 [] .none .none .none .none none .none .none 0 #[]
noncomputable def o582 : Obj := ⟨.type "code", none, .fields #[.str "over_num" 936, .str "NumberBank.over_num" 937, .str "/claim/cut.py" 938, .int 315 0, .int 3 0, .int 0 0, .int 0 0, .int 3 0, .ref 577, .bool true, .int 181 0, .ref 578, .none, .ref 579, .ref 580, .ref 581, .int 942 0, .int 315 0, .str "/claim/cut.py" 943], #[]⟩
noncomputable def o583 : Obj := fnO (subS 32 5) rfl (.type "function") none "NumberBank.over_num" 3 [] .none .none .none (.str "minismt.terms" 337) none (.ref 582) .none 0 #[]
noncomputable def o584 : Obj := ⟨.type "tuple", none, .seq #[] 0, #[]⟩
noncomputable def o585 : Obj := ⟨.none, none, .fields #[], #[]⟩
noncomputable def o586 : Obj := ⟨.type "tuple", none, .seq #[.str "self" 948, .str "t" 949] 0, #[]⟩
noncomputable def o587 : Obj := ⟨.type "tuple", none, .seq #[] 0, #[]⟩
noncomputable def o588 : Obj := fnO (subS 32 6) rfl .none none "NumberBank.negative" 0 [] .none .none .none .none none .none .none 0 #[]
noncomputable def o589 : Obj := ⟨.type "code", none, .fields #[.str "negative" 945, .str "NumberBank.negative" 946, .str "/claim/cut.py" 947, .int 318 0, .int 2 0, .int 0 0, .int 0 0, .int 3 0, .ref 584, .bool true, .int 181 0, .ref 585, .none, .ref 586, .ref 587, .ref 588, .int 950 0, .int 318 0, .str "/claim/cut.py" 951], #[]⟩
noncomputable def o590 : Obj := fnO (subS 32 6) rfl (.type "function") none "NumberBank.negative" 3 [] .none .none .none (.str "minismt.terms" 337) none (.ref 589) .none 0 #[]
noncomputable def o591 : Obj := ⟨.type "tuple", none, .seq #[] 0, #[]⟩
noncomputable def o592 : Obj := ⟨.none, none, .fields #[], #[]⟩
noncomputable def o593 : Obj := ⟨.type "tuple", none, .seq #[.str "self" 956, .str "a" 957, .str "b" 958] 0, #[]⟩
noncomputable def o594 : Obj := ⟨.type "tuple", none, .seq #[] 0, #[]⟩
noncomputable def o595 : Obj := fnO (subS 32 7) rfl .none none "NumberBank.minus" 0 [] .none .none .none .none none .none .none 0 #[]
noncomputable def o596 : Obj := ⟨.type "code", none, .fields #[.str "minus" 953, .str "NumberBank.minus" 954, .str "/claim/cut.py" 955, .int 321 0, .int 3 0, .int 0 0, .int 0 0, .int 3 0, .ref 591, .bool true, .int 181 0, .ref 592, .none, .ref 593, .ref 594, .ref 595, .int 959 0, .int 321 0, .str "/claim/cut.py" 960], #[]⟩
noncomputable def o597 : Obj := fnO (subS 32 7) rfl (.type "function") none "NumberBank.minus" 3 [] .none .none .none (.str "minismt.terms" 337) none (.ref 596) .none 0 #[]
noncomputable def o598 : Obj := ⟨.type "tuple", none, .seq #[] 0, #[]⟩
noncomputable def o599 : Obj := ⟨.none, none, .fields #[], #[]⟩
noncomputable def o600 : Obj := ⟨.type "tuple", none, .seq #[.str "self" 965, .str "a" 966, .str "b" 967] 0, #[]⟩
noncomputable def o601 : Obj := ⟨.type "tuple", none, .seq #[] 0, #[]⟩
noncomputable def o602 : Obj := fnO (subS 32 8) rfl .none none "NumberBank.le" 0 [] .none .none .none .none none .none .none 0 #[]
noncomputable def o603 : Obj := ⟨.type "code", none, .fields #[.str "le" 962, .str "NumberBank.le" 963, .str "/claim/cut.py" 964, .int 324 0, .int 3 0, .int 0 0, .int 0 0, .int 3 0, .ref 598, .bool true, .int 181 0, .ref 599, .none, .ref 600, .ref 601, .ref 602, .int 968 0, .int 324 0, .str "/claim/cut.py" 969], #[]⟩
noncomputable def o604 : Obj := fnO (subS 32 8) rfl (.type "function") none "NumberBank.le" 3 [] .none .none .none (.str "minismt.terms" 337) none (.ref 603) .none 0 #[]
noncomputable def o605 : Obj := ⟨.type "tuple", none, .seq #[] 0, #[]⟩
noncomputable def o606 : Obj := ⟨.none, none, .fields #[], #[]⟩
noncomputable def o607 : Obj := ⟨.type "tuple", none, .seq #[.str "self" 974, .str "a" 975, .str "b" 976] 0, #[]⟩
noncomputable def o608 : Obj := ⟨.type "tuple", none, .seq #[] 0, #[]⟩
noncomputable def o609 : Obj := fnO (subS 32 9) rfl .none none "NumberBank.lt" 0 [] .none .none .none .none none .none .none 0 #[]
noncomputable def o610 : Obj := ⟨.type "code", none, .fields #[.str "lt" 971, .str "NumberBank.lt" 972, .str "/claim/cut.py" 973, .int 327 0, .int 3 0, .int 0 0, .int 0 0, .int 3 0, .ref 605, .bool true, .int 181 0, .ref 606, .none, .ref 607, .ref 608, .ref 609, .int 977 0, .int 327 0, .str "/claim/cut.py" 978], #[]⟩
noncomputable def o611 : Obj := fnO (subS 32 9) rfl (.type "function") none "NumberBank.lt" 3 [] .none .none .none (.str "minismt.terms" 337) none (.ref 610) .none 0 #[]
noncomputable def o612 : Obj := ⟨.type "tuple", none, .seq #[] 0, #[]⟩
noncomputable def o613 : Obj := ⟨.none, none, .fields #[], #[]⟩
noncomputable def o614 : Obj := ⟨.type "tuple", none, .seq #[.str "self" 983, .str "t" 984, .str "args" 985] 0, #[]⟩
noncomputable def o615 : Obj := ⟨.type "tuple", none, .seq #[] 0, #[]⟩
noncomputable def o616 : Obj := fnO (subS 32 10) rfl .none none "NumberBank.with_args" 0 [] .none .none .none .none none .none .none 0 #[]
noncomputable def o617 : Obj := ⟨.type "code", none, .fields #[.str "with_args" 980, .str "NumberBank.with_args" 981, .str "/claim/cut.py" 982, .int 330 0, .int 3 0, .int 0 0, .int 0 0, .int 3 0, .ref 612, .bool true, .int 181 0, .ref 613, .none, .ref 614, .ref 615, .ref 616, .int 986 0, .int 330 0, .str "/claim/cut.py" 987], #[]⟩
noncomputable def o618 : Obj := fnO (subS 32 10) rfl (.type "function") none "NumberBank.with_args" 3 [] .none .none .none (.str "minismt.terms" 337) none (.ref 617) .none 0 #[]
noncomputable def o619 : Obj := ⟨.type "tuple", none, .seq #[] 0, #[]⟩
noncomputable def o620 (P : Params) : Obj := ⟨.type "dict", none, .dict #[⟨PyData.keyHash P "__module__", .str "__module__" 886, .str "minismt.terms" 337⟩, ⟨PyData.keyHash P "__firstlineno__", .str "__firstlineno__" 890, .int 282 889⟩, ⟨PyData.keyHash P "num", .str "num" 899, .ref 548⟩, ⟨PyData.keyHash P "want_number", .str "want_number" 908, .ref 555⟩, ⟨PyData.keyHash P "plus", .str "plus" 916, .ref 562⟩, ⟨PyData.keyHash P "times_num", .str "times_num" 926, .ref 569⟩, ⟨PyData.keyHash P "times", .str "times" 935, .ref 576⟩, ⟨PyData.keyHash P "over_num", .str "over_num" 944, .ref 583⟩, ⟨PyData.keyHash P "negative", .str "negative" 952, .ref 590⟩, ⟨PyData.keyHash P "minus", .str "minus" 961, .ref 597⟩, ⟨PyData.keyHash P "le", .str "le" 970, .ref 604⟩, ⟨PyData.keyHash P "lt", .str "lt" 979, .ref 611⟩, ⟨PyData.keyHash P "with_args", .str "with_args" 988, .ref 618⟩, ⟨PyData.keyHash P "__static_attributes__", .str "__static_attributes__" 989, .ref 619⟩, ⟨PyData.keyHash P "__doc__", .str "__doc__" 990, .none⟩] 2, #[]⟩
noncomputable def o621 : Obj := ⟨.type "type", none, .cls ⟨"NumberBank", [.ref 525], [.ref 621, .ref 525, .ref 420, .type "object"], 620, "NumberBank", true, [], [], false, none, false⟩, #[(some (.ref 535)), none, (some (.str "NumberBank" 879)), (some (.str "NumberBank" 887)), (some (.builtin "object.__new__")), (some (.bool true))]⟩
noncomputable def o622 : Obj := ⟨.type "super", none, .fields #[.ref 621, .ref 621, .ref 621], #[]⟩
noncomputable def o623 : Obj := ⟨.type "builtin_function_or_method", none, .fields #[.builtin "object.__init_subclass__", .ref 621], #[]⟩
noncomputable def o3_4 (P : Params) : Obj := ⟨.type "dict", none, .dict #[⟨PyData.keyHash P "__name__", .str "__name__" 165, .str "law_qz0021_01" 1163⟩, ⟨PyData.keyHash P "__doc__", .str "__doc__" 166, .none⟩, ⟨PyData.keyHash P "__package__", .str "__package__" 167, .none⟩, ⟨PyData.keyHash P "__loader__", .str "__loader__" 168, .builtin "__main__.__loader__#opaque"⟩, ⟨PyData.keyHash P "__spec__", .str "__spec__" 169, .none⟩, ⟨PyData.keyHash P "__annotations__", .str "__annotations__" 170, .ref 6⟩, ⟨PyData.keyHash P "__builtins__", .str "__builtins__" 171, .ref 4⟩, ⟨PyData.keyHash P "__file__", .str "__file__" 173, .str "/claim/cut.py" 172⟩, ⟨PyData.keyHash P "__cached__", .str "__cached__" 174, .none⟩, ⟨PyData.keyHash P "_wall", .str "_wall" 193, .ref 21⟩, ⟨PyData.keyHash P "SmtError", .str "SmtError" 233, .ref 47⟩, ⟨PyData.keyHash P "SortFault", .str "SortFault" 256, .ref 67⟩, ⟨PyData.keyHash P "LimitFault", .str "LimitFault" 279, .ref 86⟩, ⟨PyData.keyHash P "ModelFault", .str "ModelFault" 302, .ref 105⟩, ⟨PyData.keyHash P "gcd_of", .str "gcd_of" 312, .ref 114⟩, ⟨PyData.keyHash P "ratio", .str "ratio" 321, .ref 121⟩, ⟨PyData.keyHash P "mul", .str "mul" 329, .ref 128⟩, ⟨PyData.keyHash P "is_whole", .str "is_whole" 336, .ref 135⟩, ⟨PyData.keyHash P "mask_of", .str "mask_of" 345, .ref 142⟩, ⟨PyData.keyHash P "signed_of", .str "signed_of" 353, .ref 149⟩, ⟨PyData.keyHash P "one_value", .str "one_value" 362, .ref 156⟩, ⟨PyData.keyHash P "divided_value", .str "divided_value" 371, .ref 163⟩, ⟨PyData.keyHash P "rest_value", .str "rest_value" 379, .ref 170⟩, ⟨PyData.keyHash P "shifted_value", .str "shifted_value" 389, .ref 177⟩, ⟨PyData.keyHash P "two_value", .str "two_value" 399, .ref 184⟩, ⟨PyData.keyHash P "extract_value", .str "extract_value" 408, .ref 191⟩, ⟨PyData.keyHash P "concat_value", .str "concat_value" 417, .ref 198⟩, ⟨PyData.keyHash P "sign_extended", .str "sign_extended" 426, .ref 205⟩, ⟨PyData.keyHash P "BOOL", .str "BOOL" 428, .int 0 427⟩, ⟨PyData.keyHash P "INT", .str "INT" 430, .int 1 429⟩, ⟨PyData.keyHash P "REAL", .str "REAL" 432, .int 2 431⟩, ⟨PyData.keyHash P "WIDEST", .str "WIDEST" 434, .int 4096 433⟩, ⟨PyData.keyHash P "MOST_BITS", .str "MOST_BITS" 438, .int 65536 437⟩, ⟨PyData.keyHash P "BV_SAME", .str "BV_SAME" 449, .ref 206⟩, ⟨PyData.keyHash P "BV_ASK", .str "BV_ASK" 454, .ref 207⟩, ⟨PyData.keyHash P "Bank", .str "Bank" 738, .ref 420⟩, ⟨PyData.keyHash P "BoolBank", .str "BoolBank" 871, .ref 525⟩, ⟨PyData.keyHash P "want_small", .str "want_small" 878, .ref 534⟩, ⟨PyData.keyHash P "NumberBank", .str "NumberBank" 992, .ref 621⟩, ⟨PyData.keyHash P "TermBank", .str "TermBank" 1147, .ref 740⟩, ⟨PyData.keyHash P "bits_worked_out", .str "bits_worked_out" 1162, .ref 749⟩, ⟨PyData.keyHash P "_law_lift", .str "_law_lift" 1173, .ref 756⟩, ⟨PyData.keyHash P "_law_number", .str "_law_number" 1183, .ref 763⟩, ⟨PyData.keyHash P "_law_told", .str "_law_told" 1189, .ref 768⟩, ⟨PyData.keyHash P "_law_is_refused", .str "_law_is_refused" 1198, .ref 775⟩, ⟨PyData.keyHash P "_law_of", .str "_law_of" 1210, .ref 783⟩, ⟨PyData.keyHash P "_law_cut", .str "_law_cut" 1220, .ref 790⟩, ⟨PyData.keyHash P "_law_are_sums_right", .str "_law_are_sums_right" 1233, .ref 797⟩, ⟨PyData.keyHash P "_law_are_products_right", .str "_law_are_products_right" 1249, .ref 804⟩, ⟨PyData.keyHash P "_law_are_places_right", .str "_law_are_places_right" 1255, .ref 809⟩, ⟨PyData.keyHash P "_law_are_cuts_right", .str "_law_are_cuts_right" 1261, .ref 814⟩, ⟨PyData.keyHash P "law", .str "law" 1267, .ref 819⟩] 52, #[]⟩
noncomputable def o12_5 : Obj := ⟨.none, none, .fields #[.int 1 0, .int 0 0, .ref 20, .int 5 0, .int 0 0, .ref 28, .int 13 0, .int 0 0, .ref 56, .int 17 0, .int 0 0, .ref 75, .int 21 0, .int 0 0, .ref 94, .int 26 0, .int 0 0, .ref 113, .int 31 0, .int 0 0, .ref 120, .int 38 0, .int 0 0, .ref 127, .int 42 0, .int 0 0, .ref 134, .int 45 0, .int 0 0, .ref 141, .int 47 0, .int 0 0, .ref 148, .int 49 0, .int 0 0, .ref 155, .int 55 0, .int 0 0, .ref 162, .int 57 0, .int 0 0, .ref 169, .int 59 0, .int 0 0, .ref 176, .int 63 0, .int 0 0, .ref 183, .int 83 0, .int 0 0, .ref 190, .int 85 0, .int 0 0, .ref 197, .int 87 0, .int 0 0, .ref 204, .int 96 0, .int 0 0, .ref 213, .int 224 0, .int 0 0, .ref 430, .int 279 0, .int 0 0, .ref 533, .int 282 0, .int 0 0, .ref 540, .int 332 0, .int 0 0, .ref 630, .int 416 0, .int 0 0, .ref 748, .int 436 0, .int 0 0, .ref 755, .int 440 0, .int 0 0, .ref 762, .int 445 0, .int 0 0, .ref 767, .int 450 0, .int 0 0, .ref 774, .int 456 0, .int 0 0, .ref 782, .int 461 0, .int 0 0, .ref 789, .int 463 0, .int 0 0, .ref 796, .int 473 0, .int 0 0, .ref 803, .int 487 0, .int 0 0, .ref 808, .int 497 0, .int 0 0, .ref 813, .int 517 0, .int 0 0, .ref 818], #[]⟩
noncomputable def o621_1 : Obj := ⟨.type "type", none, .cls ⟨"NumberBank", [.ref 525], [.ref 621, .ref 525, .ref 420, .type "object"], 620, "NumberBank", true, [], [.ref 740], false, none, false⟩, #[(some (.ref 535)), none, (some (.str "NumberBank" 879)), (some (.str "NumberBank" 887)), (some (.builtin "object.__new__")), (some (.bool true))]⟩
noncomputable def o624 : Obj := ⟨.type "tuple", none, .seq #[.ref 621] 0, #[]⟩
noncomputable def o625 : Obj := ⟨.type "builtin_function_or_method", none, .fields #[.builtin "type.__prepare__", .type "type"], #[]⟩
noncomputable def o626 (P : Params) : Obj := ⟨.type "dict", none, .dict #[⟨PyData.keyHash P "__module__", .str "__module__" 1000, .str "minismt.terms" 337⟩, ⟨PyData.keyHash P "__qualname__", .str "__qualname__" 1002, .str "TermBank" 1001⟩, ⟨PyData.keyHash P "__firstlineno__", .str "__firstlineno__" 1004, .int 332 1003⟩, ⟨PyData.keyHash P "__init__", .str "__init__" 1012, .ref 639⟩, ⟨PyData.keyHash P "bv_sort", .str "bv_sort" 1020, .ref 646⟩, ⟨PyData.keyHash P "find_bv_sort", .str "find_bv_sort" 1028, .ref 653⟩, ⟨PyData.keyHash P "want_bits", .str "want_bits" 1037, .ref 660⟩, ⟨PyData.keyHash P "bv_num", .str "bv_num" 1046, .ref 667⟩, ⟨PyData.keyHash P "bv_one", .str "bv_one" 1055, .ref 674⟩, ⟨PyData.keyHash P "bv_two", .str "bv_two" 1065, .ref 681⟩, ⟨PyData.keyHash P "concat", .str "concat" 1074, .ref 688⟩, ⟨PyData.keyHash P "extract", .str "extract" 1084, .ref 695⟩, ⟨PyData.keyHash P "zero_extend", .str "zero_extend" 1093, .ref 702⟩, ⟨PyData.keyHash P "sign_extend", .str "sign_extend" 1102, .ref 709⟩, ⟨PyData.keyHash P "want_place", .str "want_place" 1112, .ref 716⟩, ⟨PyData.keyHash P "bit", .str "bit" 1121, .ref 723⟩, ⟨PyData.keyHash P "carry", .str "carry" 1131, .ref 730⟩, ⟨PyData.keyHash P "below", .str "below" 1141, .ref 737⟩, ⟨PyData.keyHash P "__static_attributes__", .str "__static_attributes__" 1143, .ref 738⟩, ⟨PyData.keyHash P "__classcell__", .str "__classcell__" 1144, .ref 627⟩] 20, #[]⟩
noncomputable def o627 : Obj := ⟨.type "cell", none, (.cell (some (.ref 740))), #[]⟩
noncomputable def o628 : Obj := ⟨.type "tuple", none, .seq #[] 0, #[]⟩
noncomputable def o629 : Obj := ⟨.none, none, .fields #[.int 334 0, .int 4 0, .ref 638, .int 338 0, .int 4 0, .ref 645, .int 349 0, .int 4 0, .ref 652, .int 352 0, .int 4 0, .ref 659, .int 356 0, .int 4 0, .ref 666, .int 359 0, .int 4 0, .ref 673, .int 365 0, .int 4 0, .ref 680, .int 374 0, .int 4 0, .ref 687, .int 379 0, .int 4 0, .ref 694, .int 385 0, .int 4 0, .ref 701, .int 391 0, .int 4 0, .ref 708, .int 397 0, .int 4 0, .ref 715, .int 401 0, .int 4 0, .ref 722, .int 407 0, .int 4 0, .ref 729, .int 410 0, .int 4 0, .ref 736], #[]⟩
noncomputable def o630 : Obj := ⟨.type "code", none, .fields #[.str "TermBank" 995, .str "TermBank" 996, .str "/claim/cut.py" 997, .int 332 0, .int 0 0, .int 0 0, .int 0 0, .int 0 0, .ref 628, .bool false, .int 181 0, .ref 629, .none, .none, .none, .none, .int 998 0, .int 332 0, .str "/claim/cut.py" 999], #[]⟩
noncomputable def o631 : Obj := ⟨.type "frame", none, .plain, #[(some (.ref 630)), (some (.ref 3)), (some (.ref 626)), none, (some (.str "minismt.terms" 337)), none, (some (.ref 0))]⟩
noncomputable def o632 : Obj := ⟨.type "tuple", none, .seq #[.ref 627] 0, #[]⟩
noncomputable def o633 : Obj := ⟨.type "tuple", none, .seq #[.str "__class__" 1008] 0, #[]⟩
noncomputable def o634 : Obj := ⟨.none, none, .fields #[], #[]⟩
noncomputable def o635 : Obj := ⟨.type "tuple", none, .seq #[.str "self" 1009] 0, #[]⟩
noncomputable def o636 : Obj := ⟨.type "tuple", none, .seq #[] 0, #[]⟩
noncomputable def o637 : Obj := fnO (subS 33 0) rfl .none none "TermBank.__init__" 0 [] .none .none .none .none none .none .none 0 #[]
noncomputable def o638 : Obj := ⟨.type "code", none, .fields #[.str "__init__" 1005, .str "TermBank.__init__" 1006, .str "/claim/cut.py" 1007, .int 334 0, .int 1 0, .int 0 0, .int 0 0, .int 3 0, .ref 633, .bool true, .int 181 0, .ref 634, .none, .ref 635, .ref 636, .ref 637, .int 1010 0, .int 334 0, .str "/claim/cut.py" 1011], #[]⟩
noncomputable def o639 : Obj := fnO (subS 33 0) rfl (.type "function") none "TermBank.__init__" 3 [("__class__", 627)] .none .none .none (.str "minismt.terms" 337) none (.ref 638) (.ref 632) 0 #[]
noncomputable def o640 : Obj := ⟨.type "tuple", none, .seq #[] 0, #[]⟩
noncomputable def o641 : Obj := ⟨.none, none, .fields #[], #[]⟩
noncomputable def o642 : Obj := ⟨.type "tuple", none, .seq #[.str "self" 1016, .str "width" 1017] 0, #[]⟩
noncomputable def o643 : Obj := ⟨.type "tuple", none, .seq #[] 0, #[]⟩
noncomputable def o644 : Obj := fnO (subS 33 1) rfl .none none "TermBank.bv_sort" 0 [] .none .none .none .none none .none .none 0 #[]
noncomputable def o645 : Obj := ⟨.type "code", none, .fields #[.str "bv_sort" 1013, .str "TermBank.bv_sort" 1014, .str "/claim/cut.py" 1015, .int 338 0, .int 2 0, .int 0 0, .int 0 0, .int 3 0, .ref 640, .bool true, .int 181 0, .ref 641, .none, .ref 642, .ref 643, .ref 644, .int 1018 0, .int 338 0, .str "/claim/cut.py" 1019], #[]⟩
noncomputable def o646 : Obj := fnO (subS 33 1) rfl (.type "function") none "TermBank.bv_sort" 3 [] .none .none .none (.str "minismt.terms" 337) none (.ref 645) .none 0 #[]
noncomputable def o647 : Obj := ⟨.type "tuple", none, .seq #[] 0, #[]⟩
noncomputable def o648 : Obj := ⟨.none, none, .fields #[], #[]⟩
noncomputable def o649 : Obj := ⟨.type "tuple", none, .seq #[.str "self" 1024, .str "width" 1025] 0, #[]⟩
noncomputable def o650 : Obj := ⟨.type "tuple", none, .seq #[] 0, #[]⟩
noncomputable def o651 : Obj := fnO (subS 33 2) rfl .none none "TermBank.find_bv_sort" 0 [] .none .none .none .none none .none .none 0 #[]
noncomputable def o652 : Obj := ⟨.type "code", none, .fields #[.str "find_bv_sort" 1021, .str "TermBank.find_bv_sort" 1022, .str "/claim/cut.py" 1023, .int 349 0, .int 2 0, .int 0 0, .int 0 0, .int 3 0, .ref 647, .bool true, .int 181 0, .ref 648, .none, .ref 649, .ref 650, .ref 651, .int 1026 0, .int 349 0, .str "/claim/cut.py" 1027], #[]⟩
noncomputable def o653 : Obj := fnO (subS 33 2) rfl (.type "function") none "TermBank.find_bv_sort" 3 [] .none .none .none (.str "minismt.terms" 337) none (.ref 652) .none 0 #[]
noncomputable def o654 : Obj := ⟨.type "tuple", none, .seq #[] 0, #[]⟩
noncomputable def o655 : Obj := ⟨.none, none, .fields #[], #[]⟩
noncomputable def o656 : Obj := ⟨.type "tuple", none, .seq #[.str "self" 1032, .str "t" 1033, .str "where" 1034] 0, #[]⟩
noncomputable def o657 : Obj := ⟨.type "tuple", none, .seq #[] 0, #[]⟩
noncomputable def o658 : Obj := fnO (subS 33 3) rfl .none none "TermBank.want_bits" 0 [] .none .none .none .none none .none .none 0 #[]
noncomputable def o659 : Obj := ⟨.type "code", none, .fields #[.str "want_bits" 1029, .str "TermBank.want_bits" 1030, .str "/claim/cut.py" 1031, .int 352 0, .int 3 0, .int 0 0, .int 0 0, .int 3 0, .ref 654, .bool true, .int 181 0, .ref 655, .none, .ref 656, .ref 657, .ref 658, .int 1035 0, .int 352 0, .str "/claim/cut.py" 1036], #[]⟩
noncomputable def o660 : Obj := fnO (subS 33 3) rfl (.type "function") none "TermBank.want_bits" 3 [] .none .none .none (.str "minismt.terms" 337) none (.ref 659) .none 0 #[]
noncomputable def o661 : Obj := ⟨.type "tuple", none, .seq #[] 0, #[]⟩
noncomputable def o662 : Obj := ⟨.none, none, .fields #[], #[]⟩
noncomputable def o663 : Obj := ⟨.type "tuple", none, .seq #[.str "self" 1041, .str "value" 1042, .str "width" 1043] 0, #[]⟩
noncomputable def o664 : Obj := ⟨.type "tuple", none, .seq #[] 0, #[]⟩
noncomputable def o665 : Obj := fnO (subS 33 4) rfl .none none "TermBank.bv_num" 0 [] .none .none .none .none none .none .none 0 #[]
noncomputable def o666 : Obj := ⟨.type "code", none, .fields #[.str "bv_num" 1038, .str "TermBank.bv_num" 1039, .str "/claim/cut.py" 1040, .int 356 0, .int 3 0, .int 0 0, .int 0 0, .int 3 0, .ref 661, .bool true, .int 181 0, .ref 662, .none, .ref 663, .ref 664, .ref 665, .int 1044 0, .int 356 0, .str "/claim/cut.py" 1045], #[]⟩
noncomputable def o667 : Obj := fnO (subS 33 4) rfl (.type "function") none "TermBank.bv_num" 3 [] .none .none .none (.str "minismt.terms" 337) none (.ref 666) .none 0 #[]
noncomputable def o668 : Obj := ⟨.type "tuple", none, .seq #[] 0, #[]⟩
noncomputable def o669 : Obj := ⟨.none, none, .fields #[], #[]⟩
noncomputable def o670 : Obj := ⟨.type "tuple", none, .seq #[.str "self" 1050, .str "op" 1051, .str "t" 1052] 0, #[]⟩
noncomputable def o671 : Obj := ⟨.type "tuple", none, .seq #[] 0, #[]⟩
noncomputable def o672 : Obj := fnO (subS 33 5) rfl .none none "TermBank.bv_one" 0 [] .none .none .none .none none .none .none 0 #[]
noncomputable def o673 : Obj := ⟨.type "code", none, .fields #[.str "bv_one" 1047, .str "TermBank.bv_one" 1048, .str "/claim/cut.py" 1049, .int 359 0, .int 3 0, .int 0 0, .int 0 0, .int 3 0, .ref 668, .bool true, .int 181 0, .ref 669, .none, .ref 670, .ref 671, .ref 672, .int 1053 0, .int 359 0, .str "/claim/cut.py" 1054], #[]⟩
noncomputable def o674 : Obj := fnO (subS 33 5) rfl (.type "function") none "TermBank.bv_one" 3 [] .none .none .none (.str "minismt.terms" 337) none (.ref 673) .none 0 #[]
noncomputable def o675 : Obj := ⟨.type "tuple", none, .seq #[] 0, #[]⟩
noncomputable def o676 : Obj := ⟨.none, none, .fields #[], #[]⟩
noncomputable def o677 : Obj := ⟨.type "tuple", none, .seq #[.str "self" 1059, .str "op" 1060, .str "a" 1061, .str "b" 1062] 0, #[]⟩
noncomputable def o678 : Obj := ⟨.type "tuple", none, .seq #[] 0, #[]⟩
noncomputable def o679 : Obj := fnO (subS 33 6) rfl .none none "TermBank.bv_two" 0 [] .none .none .none .none none .none .none 0 #[]
noncomputable def o680 : Obj := ⟨.type "code", none, .fields #[.str "bv_two" 1056, .str "TermBank.bv_two" 1057, .str "/claim/cut.py" 1058, .int 365 0, .int 4 0, .int 0 0, .int 0 0, .int 3 0, .ref 675, .bool true, .int 181 0, .ref 676, .none, .ref 677, .ref 678, .ref 679, .int 1063 0, .int 365 0, .str "/claim/cut.py" 1064], #[]⟩
noncomputable def o681 : Obj := fnO (subS 33 6) rfl (.type "function") none "TermBank.bv_two" 3 [] .none .none .none (.str "minismt.terms" 337) none (.ref 680) .none 0 #[]
noncomputable def o682 : Obj := ⟨.type "tuple", none, .seq #[] 0, #[]⟩
noncomputable def o683 : Obj := ⟨.none, none, .fields #[], #[]⟩
noncomputable def o684 : Obj := ⟨.type "tuple", none, .seq #[.str "self" 1069, .str "a" 1070, .str "b" 1071] 0, #[]⟩
noncomputable def o685 : Obj := ⟨.type "tuple", none, .seq #[] 0, #[]⟩
noncomputable def o686 : Obj := fnO (subS 33 7) rfl .none none "TermBank.concat" 0 [] .none .none .none .none none .none .none 0 #[]
noncomputable def o687 : Obj := ⟨.type "code", none, .fields #[.str "concat" 1066, .str "TermBank.concat" 1067, .str "/claim/cut.py" 1068, .int 374 0, .int 3 0, .int 0 0, .int 0 0, .int 3 0, .ref 682, .bool true, .int 181 0, .ref 683, .none, .ref 684, .ref 685, .ref 686, .int 1072 0, .int 374 0, .str "/claim/cut.py" 1073], #[]⟩
noncomputable def o688 : Obj := fnO (subS 33 7) rfl (.type "function") none "TermBank.concat" 3 [] .none .none .none (.str "minismt.terms" 337) none (.ref 687) .none 0 #[]
noncomputable def o689 : Obj := ⟨.type "tuple", none, .seq #[] 0, #[]⟩
noncomputable def o690 : Obj := ⟨.none, none, .fields #[], #[]⟩
noncomputable def o691 : Obj := ⟨.type "tuple", none, .seq #[.str "self" 1078, .str "high" 1079, .str "low" 1080, .str "t" 1081] 0, #[]⟩
noncomputable def o692 : Obj := ⟨.type "tuple", none, .seq #[] 0, #[]⟩
noncomputable def o693 : Obj := fnO (subS 33 8) rfl .none none "TermBank.extract" 0 [] .none .none .none .none none .none .none 0 #[]
noncomputable def o694 : Obj := ⟨.type "code", none, .fields #[.str "extract" 1075, .str "TermBank.extract" 1076, .str "/claim/cut.py" 1077, .int 379 0, .int 4 0, .int 0 0, .int 0 0, .int 3 0, .ref 689, .bool true, .int 181 0, .ref 690, .none, .ref 691, .ref 692, .ref 693, .int 1082 0, .int 379 0, .str "/claim/cut.py" 1083], #[]⟩
noncomputable def o695 : Obj := fnO (subS 33 8) rfl (.type "function") none "TermBank.extract" 3 [] .none .none .none (.str "minismt.terms" 337) none (.ref 694) .none 0 #[]
noncomputable def o696 : Obj := ⟨.type "tuple", none, .seq #[] 0, #[]⟩
noncomputable def o697 : Obj := ⟨.none, none, .fields #[], #[]⟩
noncomputable def o698 : Obj := ⟨.type "tuple", none, .seq #[.str "self" 1088, .str "many" 1089, .str "t" 1090] 0, #[]⟩
noncomputable def o699 : Obj := ⟨.type "tuple", none, .seq #[] 0, #[]⟩
noncomputable def o700 : Obj := fnO (subS 33 9) rfl .none none "TermBank.zero_extend" 0 [] .none .none .none .none none .none .none 0 #[]
noncomputable def o701 : Obj := ⟨.type "code", none, .fields #[.str "zero_extend" 1085, .str "TermBank.zero_extend" 1086, .str "/claim/cut.py" 1087, .int 385 0, .int 3 0, .int 0 0, .int 0 0, .int 3 0, .ref 696, .bool true, .int 181 0, .ref 697, .none, .ref 698, .ref 699, .ref 700, .int 1091 0, .int 385 0, .str "/claim/cut.py" 1092], #[]⟩
noncomputable def o702 : Obj := fnO (subS 33 9) rfl (.type "function") none "TermBank.zero_extend" 3 [] .none .none .none (.str "minismt.terms" 337) none (.ref 701) .none 0 #[]
noncomputable def o703 : Obj := ⟨.type "tuple", none, .seq #[] 0, #[]⟩
noncomputable def o704 : Obj := ⟨.none, none, .fields #[], #[]⟩
noncomputable def o705 : Obj := ⟨.type "tuple", none, .seq #[.str "self" 1097, .str "many" 1098, .str "t" 1099] 0, #[]⟩
noncomputable def o706 : Obj := ⟨.type "tuple", none, .seq #[] 0, #[]⟩
noncomputable def o707 : Obj := fnO (subS 33 10) rfl .none none "TermBank.sign_extend" 0 [] .none .none .none .none none .none .none 0 #[]
noncomputable def o708 : Obj := ⟨.type "code", none, .fields #[.str "sign_extend" 1094, .str "TermBank.sign_extend" 1095, .str "/claim/cut.py" 1096, .int 391 0, .int 3 0, .int 0 0, .int 0 0, .int 3 0, .ref 703, .bool true, .int 181 0, .ref 704, .none, .ref 705, .ref 706, .ref 707, .int 1100 0, .int 391 0, .str "/claim/cut.py" 1101], #[]⟩
noncomputable def o709 : Obj := fnO (subS 33 10) rfl (.type "function") none "TermBank.sign_extend" 3 [] .none .none .none (.str "minismt.terms" 337) none (.ref 708) .none 0 #[]
noncomputable def o710 : Obj := ⟨.type "tuple", none, .seq #[] 0, #[]⟩
noncomputable def o711 : Obj := ⟨.none, none, .fields #[], #[]⟩
noncomputable def o712 : Obj := ⟨.type "tuple", none, .seq #[.str "self" 1106, .str "i" 1107, .str "t" 1108, .str "where" 1109] 0, #[]⟩
noncomputable def o713 : Obj := ⟨.type "tuple", none, .seq #[] 0, #[]⟩
noncomputable def o714 : Obj := fnO (subS 33 11) rfl .none none "TermBank.want_place" 0 [] .none .none .none .none none .none .none 0 #[]
noncomputable def o715 : Obj := ⟨.type "code", none, .fields #[.str "want_place" 1103, .str "TermBank.want_place" 1104, .str "/claim/cut.py" 1105, .int 397 0, .int 4 0, .int 0 0, .int 0 0, .int 3 0, .ref 710, .bool true, .int 181 0, .ref 711, .none, .ref 712, .ref 713, .ref 714, .int 1110 0, .int 397 0, .str "/claim/cut.py" 1111], #[]⟩
noncomputable def o716 : Obj := fnO (subS 33 11) rfl (.type "function") none "TermBank.want_place" 3 [] .none .none .none (.str "minismt.terms" 337) none (.ref 715) .none 0 #[]
noncomputable def o717 : Obj := ⟨.type "tuple", none, .seq #[] 0, #[]⟩
noncomputable def o718 : Obj := ⟨.none, none, .fields #[], #[]⟩
noncomputable def o719 : Obj := ⟨.type "tuple", none, .seq #[.str "self" 1116, .str "i" 1117, .str "t" 1118] 0, #[]⟩
noncomputable def o720 : Obj := ⟨.type "tuple", none, .seq #[] 0, #[]⟩
noncomputable def o721 : Obj := fnO (subS 33 12) rfl .none none "TermBank.bit" 0 [] .none .none .none .none none .none .none 0 #[]
noncomputable def o722 : Obj := ⟨.type "code", none, .fields #[.str "bit" 1113, .str "TermBank.bit" 1114, .str "/claim/cut.py" 1115, .int 401 0, .int 3 0, .int 0 0, .int 0 0, .int 3 0, .ref 717, .bool true, .int 181 0, .ref 718, .none, .ref 719, .ref 720, .ref 721, .int 1119 0, .int 401 0, .str "/claim/cut.py" 1120], #[]⟩
noncomputable def o723 : Obj := fnO (subS 33 12) rfl (.type "function") none "TermBank.bit" 3 [] .none .none .none (.str "minismt.terms" 337) none (.ref 722) .none 0 #[]
noncomputable def o724 : Obj := ⟨.type "tuple", none, .seq #[] 0, #[]⟩
noncomputable def o725 : Obj := ⟨.none, none, .fields #[], #[]⟩
noncomputable def o726 : Obj := ⟨.type "tuple", none, .seq #[.str "self" 1125, .str "i" 1126, .str "a" 1127, .str "b" 1128] 0, #[]⟩
noncomputable def o727 : Obj := ⟨.type "tuple", none, .seq #[] 0, #[]⟩
noncomputable def o728 : Obj := fnO (subS 33 13) rfl .none none "TermBank.carry" 0 [] .none .none .none .none none .none .none 0 #[]
noncomputable def o729 : Obj := ⟨.type "code", none, .fields #[.str "carry" 1122, .str "TermBank.carry" 1123, .str "/claim/cut.py" 1124, .int 407 0, .int 4 0, .int 0 0, .int 0 0, .int 3 0, .ref 724, .bool true, .int 181 0, .ref 725, .none, .ref 726, .ref 727, .ref 728, .int 1129 0, .int 407 0, .str "/claim/cut.py" 1130], #[]⟩
noncomputable def o730 : Obj := fnO (subS 33 13) rfl (.type "function") none "TermBank.carry" 3 [] .none .none .none (.str "minismt.terms" 337) none (.ref 729) .none 0 #[]
noncomputable def o731 : Obj := ⟨.type "tuple", none, .seq #[] 0, #[]⟩
noncomputable def o732 : Obj := ⟨.none, none, .fields #[], #[]⟩
noncomputable def o733 : Obj := ⟨.type "tuple", none, .seq #[.str "self" 1135, .str "i" 1136, .str "a" 1137, .str "b" 1138] 0, #[]⟩
noncomputable def o734 : Obj := ⟨.type "tuple", none, .seq #[] 0, #[]⟩
noncomputable def o735 : Obj := fnO (subS 33 14) rfl .none none "TermBank.below" 0 [] .none .none .none .none none .none .none 0 #[]
noncomputable def o736 : Obj := ⟨.type "code", none, .fields #[.str "below" 1132, .str "TermBank.below" 1133, .str "/claim/cut.py" 1134, .int 410 0, .int 4 0, .int 0 0, .int 0 0, .int 3 0, .ref 731, .bool true, .int 181 0, .ref 732, .none, .ref 733, .ref 734, .ref 735, .int 1139 0, .int 410 0, .str "/claim/cut.py" 1140], #[]⟩
noncomputable def o737 : Obj := fnO (subS 33 14) rfl (.type "function") none "TermBank.below" 3 [] .none .none .none (.str "minismt.terms" 337) none (.ref 736) .none 0 #[]
noncomputable def o738 : Obj := ⟨.type "tuple", none, .seq #[.str "bv_numbers" 1142] 0, #[]⟩
noncomputable def o739 (P : Params) : Obj := ⟨.type "dict", none, .dict #[⟨PyData.keyHash P "__module__", .str "__module__" 1000, .str "minismt.terms" 337⟩, ⟨PyData.keyHash P "__firstlineno__", .str "__firstlineno__" 1004, .int 332 1003⟩, ⟨PyData.keyHash P "__init__", .str "__init__" 1012, .ref 639⟩, ⟨PyData.keyHash P "bv_sort", .str "bv_sort" 1020, .ref 646⟩, ⟨PyData.keyHash P "find_bv_sort", .str "find_bv_sort" 1028, .ref 653⟩, ⟨PyData.keyHash P "want_bits", .str "want_bits" 1037, .ref 660⟩, ⟨PyData.keyHash P "bv_num", .str "bv_num" 1046, .ref 667⟩, ⟨PyData.keyHash P "bv_one", .str "bv_one" 1055, .ref 674⟩, ⟨PyData.keyHash P "bv_two", .str "bv_two" 1065, .ref 681⟩, ⟨PyData.keyHash P "concat", .str "concat" 1074, .ref 688⟩, ⟨PyData.keyHash P "extract", .str "extract" 1084, .ref 695⟩, ⟨PyData.keyHash P "zero_extend", .str "zero_extend" 1093, .ref 702⟩, ⟨PyData.keyHash P "sign_extend", .str "sign_extend" 1102, .ref 709⟩, ⟨PyData.keyHash P "want_place", .str "want_place" 1112, .ref 716⟩, ⟨PyData.keyHash P "bit", .str "bit" 1121, .ref 723⟩, ⟨PyData.keyHash P "carry", .str "carry" 1131, .ref 730⟩, ⟨PyData.keyHash P "below", .str "below" 1141, .ref 737⟩, ⟨PyData.keyHash P "__static_attributes__", .str "__static_attributes__" 1143, .ref 738⟩, ⟨PyData.keyHash P "__doc__", .str "__doc__" 1145, .none⟩] 3, #[]⟩
noncomputable def o740 : Obj := ⟨.type "type", none, .cls ⟨"TermBank", [.ref 621], [.ref 740, .ref 621, .ref 525, .ref 420, .type "object"], 739, "TermBank", true, [], [], false, none, false⟩, #[(some (.ref 624)), none, (some (.str "TermBank" 993)), (some (.str "TermBank" 1001)), (some (.builtin "object.__new__")), (some (.bool true))]⟩
noncomputable def o741 : Obj := ⟨.type "super", none, .fields #[.ref 740, .ref 740, .ref 740], #[]⟩
noncomputable def o742 : Obj := ⟨.type "builtin_function_or_method", none, .fields #[.builtin "object.__init_subclass__", .ref 740], #[]⟩
noncomputable def o743 : Obj := ⟨.type "tuple", none, .seq #[] 0, #[]⟩
noncomputable def o744 : Obj := ⟨.none, none, .fields #[], #[]⟩
noncomputable def o745 : Obj := ⟨.type "tuple", none, .seq #[.str "bank" 1153, .str "t" 1154, .str "values" 1155, .str "op" 1156, .str "width" 1157, .str "first" 1158, .str "found" 1159] 0, #[]⟩
noncomputable def o746 : Obj := ⟨.type "tuple", none, .seq #[] 0, #[]⟩
noncomputable def o747 : Obj := fnO (pickS 35) rfl .none none "bits_worked_out" 0 [] .none .none .none .none none .none .none 0 #[]
noncomputable def o748 : Obj := ⟨.type "code", none, .fields #[.str "bits_worked_out" 1150, .str "bits_worked_out" 1151, .str "/claim/cut.py" 1152, .int 416 0, .int 3 0, .int 0 0, .int 0 0, .int 3 0, .ref 743, .bool true, .int 181 0, .ref 744, .none, .ref 745, .ref 746, .ref 747, .int 1160 0, .int 416 0, .str "/claim/cut.py" 1161], #[]⟩
noncomputable def o749 : Obj := fnO (pickS 35) rfl (.type "function") none "bits_worked_out" 3 [] .none .none .none (.str "minismt.models" 1148) none (.ref 748) .none 0 #[]
noncomputable def o750 : Obj := ⟨.type "tuple", none, .seq #[] 0, #[]⟩
noncomputable def o751 : Obj := ⟨.none, none, .fields #[], #[]⟩
noncomputable def o752 : Obj := ⟨.type "tuple", none, .seq #[.str "jack" 1168, .str "many" 1169, .str "place" 1170] 0, #[]⟩
noncomputable def o753 : Obj := ⟨.type "tuple", none, .seq #[] 0, #[]⟩
noncomputable def o754 : Obj := fnO (pickS 37) rfl .none none "_law_lift" 0 [] .none .none .none .none none .none .none 0 #[]
noncomputable def o755 : Obj := ⟨.type "code", none, .fields #[.str "_law_lift" 1165, .str "_law_lift" 1166, .str "/claim/cut.py" 1167, .int 436 0, .int 2 0, .int 0 0, .int 0 0, .int 3 0, .ref 750, .bool true, .int 181 0, .ref 751, .none, .ref 752, .ref 753, .ref 754, .int 1171 0, .int 436 0, .str "/claim/cut.py" 1172], #[]⟩
noncomputable def o756 : Obj := fnO (pickS 37) rfl (.type "function") none "_law_lift" 3 [] .none .none .none (.str "law_qz0021_01" 1163) none (.ref 755) .none 0 #[]
noncomputable def o757 : Obj := ⟨.type "tuple", none, .seq #[] 0, #[]⟩
noncomputable def o758 : Obj := ⟨.none, none, .fields #[], #[]⟩
noncomputable def o759 : Obj := ⟨.type "tuple", none, .seq #[.str "jack" 1177, .str "width" 1178, .str "way" 1179, .str "room" 1180] 0, #[]⟩
noncomputable def o760 : Obj := ⟨.type "tuple", none, .seq #[] 0, #[]⟩
noncomputable def o761 : Obj := fnO (pickS 38) rfl .none none "_law_number" 0 [] .none .none .none .none none .none .none 0 #[]
noncomputable def o762 : Obj := ⟨.type "code", none, .fields #[.str "_law_number" 1174, .str "_law_number" 1175, .str "/claim/cut.py" 1176, .int 440 0, .int 2 0, .int 0 0, .int 0 0, .int 3 0, .ref 757, .bool true, .int 181 0, .ref 758, .none, .ref 759, .ref 760, .ref 761, .int 1181 0, .int 440 0, .str "/claim/cut.py" 1182], #[]⟩
noncomputable def o763 : Obj := fnO (pickS 38) rfl (.type "function") none "_law_number" 3 [] .none .none .none (.str "law_qz0021_01" 1163) none (.ref 762) .none 0 #[]
noncomputable def o764 : Obj := ⟨.type "tuple", none, .seq #[] 0, #[]⟩
noncomputable def o765 : Obj := ⟨.none, none, .fields #[], #[]⟩
noncomputable def o766 : Obj := fnO (pickS 39) rfl .none none "_law_told" 0 [] .none .none .none .none none .none .none 0 #[]
noncomputable def o767 : Obj := ⟨.type "code", none, .fields #[.str "_law_told" 1184, .str "_law_told" 1185, .str "/claim/cut.py" 1186, .int 445 0, .int 3 0, .int 0 0, .int 0 0, .int 3 0, .ref 764, .bool true, .int 181 0, .ref 765, .none, .none, .none, .ref 766, .int 1187 0, .int 445 0, .str "/claim/cut.py" 1188], #[]⟩
noncomputable def o768 : Obj := fnO (pickS 39) rfl (.type "function") none "_law_told" 3 [] .none .none .none (.str "law_qz0021_01" 1163) none (.ref 767) .none 0 #[]
noncomputable def o769 : Obj := ⟨.type "tuple", none, .seq #[] 0, #[]⟩
noncomputable def o770 : Obj := ⟨.none, none, .fields #[], #[]⟩
noncomputable def o771 : Obj := ⟨.type "tuple", none, .seq #[.str "bank" 1193, .str "t" 1194, .str "many" 1195] 0, #[]⟩
noncomputable def o772 : Obj := ⟨.type "tuple", none, .seq #[] 0, #[]⟩
noncomputable def o773 : Obj := fnO (pickS 40) rfl .none none "_law_is_refused" 0 [] .none .none .none .none none .none .none 0 #[]
noncomputable def o774 : Obj := ⟨.type "code", none, .fields #[.str "_law_is_refused" 1190, .str "_law_is_refused" 1191, .str "/claim/cut.py" 1192, .int 450 0, .int 3 0, .int 0 0, .int 0 0, .int 3 0, .ref 769, .bool true, .int 181 0, .ref 770, .none, .ref 771, .ref 772, .ref 773, .int 1196 0, .int 450 0, .str "/claim/cut.py" 1197], #[]⟩
noncomputable def o775 : Obj := fnO (pickS 40) rfl (.type "function") none "_law_is_refused" 3 [] .none .none .none (.str "law_qz0021_01" 1163) none (.ref 774) .none 0 #[]
noncomputable def o776 : Obj := ⟨.type "tuple", none, .seq #[.none] 0, #[]⟩
noncomputable def o777 : Obj := ⟨.type "tuple", none, .seq #[] 0, #[]⟩
noncomputable def o778 : Obj := ⟨.none, none, .fields #[], #[]⟩
noncomputable def o779 : Obj := ⟨.type "tuple", none, .seq #[.str "world" 1202, .str "word" 1203, .str "x" 1204, .str "y" 1205, .str "bank" 1206, .str "width" 1207] 0, #[]⟩
noncomputable def o780 : Obj := ⟨.type "tuple", none, .seq #[] 0, #[]⟩
noncomputable def o781 : Obj := fnO (pickS 41) rfl .none none "_law_of" 0 [] .none .none .none .none none .none .none 0 #[]
noncomputable def o782 : Obj := ⟨.type "code", none, .fields #[.str "_law_of" 1199, .str "_law_of" 1200, .str "/claim/cut.py" 1201, .int 456 0, .int 4 0, .int 0 0, .int 0 0, .int 3 0, .ref 777, .bool true, .int 181 0, .ref 778, .none, .ref 779, .ref 780, .ref 781, .int 1208 0, .int 456 0, .str "/claim/cut.py" 1209], #[]⟩
noncomputable def o783 : Obj := fnO (pickS 41) rfl (.type "function") none "_law_of" 3 [] (.ref 776) .none .none (.str "law_qz0021_01" 1163) none (.ref 782) .none 0 #[]
noncomputable def o784 : Obj := ⟨.type "tuple", none, .seq #[] 0, #[]⟩
noncomputable def o785 : Obj := ⟨.none, none, .fields #[], #[]⟩
noncomputable def o786 : Obj := ⟨.type "tuple", none, .seq #[.str "world" 1214, .str "high" 1215, .str "low" 1216, .str "x" 1217] 0, #[]⟩
noncomputable def o787 : Obj := ⟨.type "tuple", none, .seq #[] 0, #[]⟩
noncomputable def o788 : Obj := fnO (pickS 42) rfl .none none "_law_cut" 0 [] .none .none .none .none none .none .none 0 #[]
noncomputable def o789 : Obj := ⟨.type "code", none, .fields #[.str "_law_cut" 1211, .str "_law_cut" 1212, .str "/claim/cut.py" 1213, .int 461 0, .int 4 0, .int 0 0, .int 0 0, .int 3 0, .ref 784, .bool true, .int 181 0, .ref 785, .none, .ref 786, .ref 787, .ref 788, .int 1218 0, .int 461 0, .str "/claim/cut.py" 1219], #[]⟩
noncomputable def o790 : Obj := fnO (pickS 42) rfl (.type "function") none "_law_cut" 3 [] .none .none .none (.str "law_qz0021_01" 1163) none (.ref 789) .none 0 #[]
noncomputable def o791 : Obj := ⟨.type "tuple", none, .seq #[] 0, #[]⟩
noncomputable def o792 : Obj := ⟨.none, none, .fields #[], #[]⟩
noncomputable def o793 : Obj := ⟨.type "tuple", none, .seq #[.str "world" 1224, .str "x" 1225, .str "y" 1226, .str "z" 1227, .str "last" 1228, .str "total" 1229, .str "other" 1230] 0, #[]⟩
noncomputable def o794 : Obj := ⟨.type "tuple", none, .seq #[] 0, #[]⟩
noncomputable def o795 : Obj := fnO (pickS 43) rfl .none none "_law_are_sums_right" 0 [] .none .none .none .none none .none .none 0 #[]
noncomputable def o796 : Obj := ⟨.type "code", none, .fields #[.str "_law_are_sums_right" 1221, .str "_law_are_sums_right" 1222, .str "/claim/cut.py" 1223, .int 463 0, .int 4 0, .int 0 0, .int 0 0, .int 3 0, .ref 791, .bool true, .int 181 0, .ref 792, .none, .ref 793, .ref 794, .ref 795, .int 1231 0, .int 463 0, .str "/claim/cut.py" 1232], #[]⟩
noncomputable def o797 : Obj := fnO (pickS 43) rfl (.type "function") none "_law_are_sums_right" 3 [] .none .none .none (.str "law_qz0021_01" 1163) none (.ref 796) .none 0 #[]
noncomputable def o798 : Obj := ⟨.type "tuple", none, .seq #[] 0, #[]⟩
noncomputable def o799 : Obj := ⟨.none, none, .fields #[], #[]⟩
noncomputable def o800 : Obj := ⟨.type "tuple", none, .seq #[.str "world" 1237, .str "x" 1238, .str "y" 1239, .str "z" 1240, .str "last" 1241, .str "both" 1242, .str "parts" 1243, .str "divisor" 1244, .str "times" 1245, .str "rest" 1246] 0, #[]⟩
noncomputable def o801 : Obj := ⟨.type "tuple", none, .seq #[] 0, #[]⟩
noncomputable def o802 : Obj := fnO (pickS 44) rfl .none none "_law_are_products_right" 0 [] .none .none .none .none none .none .none 0 #[]
noncomputable def o803 : Obj := ⟨.type "code", none, .fields #[.str "_law_are_products_right" 1234, .str "_law_are_products_right" 1235, .str "/claim/cut.py" 1236, .int 473 0, .int 4 0, .int 0 0, .int 0 0, .int 3 0, .ref 798, .bool true, .int 181 0, .ref 799, .none, .ref 800, .ref 801, .ref 802, .int 1247 0, .int 473 0, .str "/claim/cut.py" 1248], #[]⟩
noncomputable def o804 : Obj := fnO (pickS 44) rfl (.type "function") none "_law_are_products_right" 3 [] .none .none .none (.str "law_qz0021_01" 1163) none (.ref 803) .none 0 #[]
noncomputable def o805 : Obj := ⟨.type "tuple", none, .seq #[] 0, #[]⟩
noncomputable def o806 : Obj := ⟨.none, none, .fields #[], #[]⟩
noncomputable def o807 : Obj := fnO (pickS 45) rfl .none none "_law_are_places_right" 0 [] .none .none .none .none none .none .none 0 #[]
noncomputable def o808 : Obj := ⟨.type "code", none, .fields #[.str "_law_are_places_right" 1250, .str "_law_are_places_right" 1251, .str "/claim/cut.py" 1252, .int 487 0, .int 4 0, .int 0 0, .int 0 0, .int 3 0, .ref 805, .bool true, .int 181 0, .ref 806, .none, .none, .none, .ref 807, .int 1253 0, .int 487 0, .str "/claim/cut.py" 1254], #[]⟩
noncomputable def o809 : Obj := fnO (pickS 45) rfl (.type "function") none "_law_are_places_right" 3 [] .none .none .none (.str "law_qz0021_01" 1163) none (.ref 808) .none 0 #[]
noncomputable def o810 : Obj := ⟨.type "tuple", none, .seq #[] 0, #[]⟩
noncomputable def o811 : Obj := ⟨.none, none, .fields #[], #[]⟩
noncomputable def o812 : Obj := fnO (pickS 46) rfl .none none "_law_are_cuts_right" 0 [] .none .none .none .none none .none .none 0 #[]
noncomputable def o813 : Obj := ⟨.type "code", none, .fields #[.str "_law_are_cuts_right" 1256, .str "_law_are_cuts_right" 1257, .str "/claim/cut.py" 1258, .int 497 0, .int 5 0, .int 0 0, .int 0 0, .int 3 0, .ref 810, .bool true, .int 181 0, .ref 811, .none, .none, .none, .ref 812, .int 1259 0, .int 497 0, .str "/claim/cut.py" 1260], #[]⟩
noncomputable def o814 : Obj := fnO (pickS 46) rfl (.type "function") none "_law_are_cuts_right" 3 [] .none .none .none (.str "law_qz0021_01" 1163) none (.ref 813) .none 0 #[]
noncomputable def o815 : Obj := ⟨.type "tuple", none, .seq #[] 0, #[]⟩
noncomputable def o816 : Obj := ⟨.none, none, .fields #[], #[]⟩
noncomputable def o817 : Obj := fnO (pickS 47) rfl .none none "law" 0 [] .none .none .none .none none .none .none 0 #[]
noncomputable def o818 : Obj := ⟨.type "code", none, .fields #[.str "law" 1262, .str "law" 1263, .str "/claim/cut.py" 1264, .int 517 0, .int 1 0, .int 0 0, .int 0 0, .int 3 0, .ref 815, .bool true, .int 181 0, .ref 816, .none, .none, .none, .ref 817, .int 1265 0, .int 517 0, .str "/claim/cut.py" 1266], #[]⟩
noncomputable def o819 : Obj := fnO (pickS 47) rfl (.type "function") none "law" 3 [] .none .none .none (.str "law_qz0021_01" 1163) none (.ref 818) .none 0 #[]
noncomputable def hPre (P : Params) : Heap := ⟨.mk (boot_o_0 P :: boot_o_1 P :: boot_o_2 P :: boot_o_3 P :: boot_o_4 P :: boot_o_5 P :: boot_o_6 P :: boot_o_7 P :: boot_o_8 P :: boot_o_9 P :: boot_o_10 P :: o11 :: o12 :: o13 :: o14 :: []), {}⟩
noncomputable def hFin (P : Params) : Heap := ⟨.mk (boot_o_0 P :: boot_o_1 P :: o2 P :: o3_4 P :: boot_o_4 P :: boot_o_5 P :: boot_o_6 P :: boot_o_7 P :: boot_o_8 P :: boot_o_9 P :: boot_o_10 P :: o11 :: o12_5 :: o13 :: o14 :: o15 :: o16 :: o17 :: o18 :: o19 :: o20 :: o21 :: o22 :: o23 :: o24 P :: o25 :: o26 :: o27 :: o28 :: o29 :: o30 :: o31 :: o32 :: o33 :: o34 :: o35 :: o36 :: o37 :: o38 :: o39 :: o40 :: o41 :: o42 :: o43 :: o44 :: o45 :: o46 P :: o47 :: o48 :: o49 :: o50 :: o51 :: o52 :: o53 P :: o54 :: o55 :: o56 :: o57 :: o58 :: o59 :: o60 :: o61 :: o62 :: o63 :: o64 :: o65 :: o66 P :: o67 :: o68 :: o69 :: o70 :: o71 :: o72 P :: o73 :: o74 :: o75 :: o76 :: o77 :: o78 :: o79 :: o80 :: o81 :: o82 :: o83 :: o84 :: o85 P :: o86 :: o87 :: o88 :: o89 :: o90 :: o91 P :: o92 :: o93 :: o94 :: o95 :: o96 :: o97 :: o98 :: o99 :: o100 :: o101 :: o102 :: o103 :: o104 P :: o105 :: o106 :: o107 :: o108 :: o109 :: o110 :: o111 :: o112 :: o113 :: o114 :: o115 :: o116 :: o117 :: o118 :: o119 :: o120 :: o121 :: o122 :: o123 :: o124 :: o125 :: o126 :: o127 :: o128 :: o129 :: o130 :: o131 :: o132 :: o133 :: o134 :: o135 :: o136 :: o137 :: o138 :: o139 :: o140 :: o141 :: o142 :: o143 :: o144 :: o145 :: o146 :: o147 :: o148 :: o149 :: o150 :: o151 :: o152 :: o153 :: o154 :: o155 :: o156 :: o157 :: o158 :: o159 :: o160 :: o161 :: o162 :: o163 :: o164 :: o165 :: o166 :: o167 :: o168 :: o169 :: o170 :: o171 :: o172 :: o173 :: o174 :: o175 :: o176 :: o177 :: o178 :: o179 :: o180 :: o181 :: o182 :: o183 :: o184 :: o185 :: o186 :: o187 :: o188 :: o189 :: o190 :: o191 :: o192 :: o193 :: o194 :: o195 :: o196 :: o197 :: o198 :: o199 :: o200 :: o201 :: o202 :: o203 :: o204 :: o205 :: o206 :: o207 :: o208 :: o209 :: o210 P :: o211 :: o212 :: o213 :: o214 :: o215 :: o216 :: o217 :: o218 :: o219 :: o220 :: o221 :: o222 :: o223 :: o224 :: o225 :: o226 :: o227 :: o228 :: o229 :: o230 :: o231 :: o232 :: o233 :: o234 :: o235 :: o236 :: o237 :: o238 :: o239 :: o240 :: o241 :: o242 :: o243 :: o244 :: o245 :: o246 :: o247 :: o248 :: o249 :: o250 :: o251 :: o252 :: o253 :: o254 :: o255 :: o256 :: o257 :: o258 :: o259 :: o260 :: o261 :: o262 :: o263 :: o264 :: o265 :: o266 :: o267 :: o268 :: o269 :: o270 :: o271 :: o272 :: o273 :: o274 :: o275 :: o276 :: o277 :: o278 :: o279 :: o280 :: o281 :: o282 :: o283 :: o284 :: o285 :: o286 :: o287 :: o288 :: o289 :: o290 :: o291 :: o292 :: o293 :: o294 :: o295 :: o296 :: o297 :: o298 :: o299 :: o300 :: o301 :: o302 :: o303 :: o304 :: o305 :: o306 :: o307 :: o308 :: o309 :: o310 :: o311 :: o312 :: o313 :: o314 :: o315 :: o316 :: o317 :: o318 :: o319 :: o320 :: o321 :: o322 :: o323 :: o324 :: o325 :: o326 :: o327 :: o328 :: o329 :: o330 :: o331 :: o332 :: o333 :: o334 :: o335 :: o336 :: o337 :: o338 :: o339 :: o340 :: o341 :: o342 :: o343 :: o344 :: o345 :: o346 :: o347 :: o348 :: o349 :: o350 :: o351 :: o352 :: o353 :: o354 :: o355 :: o356 :: o357 :: o358 :: o359 :: o360 :: o361 :: o362 :: o363 :: o364 :: o365 :: o366 :: o367 :: o368 :: o369 :: o370 :: o371 :: o372 :: o373 :: o374 :: o375 :: o376 :: o377 :: o378 :: o379 :: o380 :: o381 :: o382 :: o383 :: o384 :: o385 :: o386 :: o387 :: o388 :: o389 :: o390 :: o391 :: o392 :: o393 :: o394 :: o395 :: o396 :: o397 :: o398 :: o399 :: o400 :: o401 :: o402 :: o403 :: o404 :: o405 :: o406 :: o407 :: o408 :: o409 :: o410 :: o411 :: o412 :: o413 :: o414 :: o415 :: o416 :: o417 :: o418 :: o419 P :: o420_1 :: o421 :: o422 :: o423 :: o424 :: o425 :: o426 :: o427 P :: o428 :: o429 :: o430 :: o431 :: o432 :: o433 :: o434 :: o435 :: o436 :: o437 :: o438 :: o439 :: o440 :: o441 :: o442 :: o443 :: o444 :: o445 :: o446 :: o447 :: o448 :: o449 :: o450 :: o451 :: o452 :: o453 :: o454 :: o455 :: o456 :: o457 :: o458 :: o459 :: o460 :: o461 :: o462 :: o463 :: o464 :: o465 :: o466 :: o467 :: o468 :: o469 :: o470 :: o471 :: o472 :: o473 :: o474 :: o475 :: o476 :: o477 :: o478 :: o479 :: o480 :: o481 :: o482 :: o483 :: o484 :: o485 :: o486 :: o487 :: o488 :: o489 :: o490 :: o491 :: o492 :: o493 :: o494 :: o495 :: o496 :: o497 :: o498 :: o499 :: o500 :: o501 :: o502 :: o503 :: o504 :: o505 :: o506 :: o507 :: o508 :: o509 :: o510 :: o511 :: o512 :: o513 :: o514 :: o515 :: o516 :: o517 :: o518 :: o519 :: o520 :: o521 :: o522 :: o523 :: o524 P :: o525 :: o526 :: o527 :: o528 :: o529 :: o530 :: o531 :: o532 :: o533 :: o534 :: o535 :: o536 :: o537 P :: o538 :: o539 :: o540 :: o541 :: o542 :: o543 :: o544 :: o545 :: o546 :: o547 :: o548 :: o549 :: o550 :: o551 :: o552 :: o553 :: o554 :: o555 :: o556 :: o557 :: o558 :: o559 :: o560 :: o561 :: o562 :: o563 :: o564 :: o565 :: o566 :: o567 :: o568 :: o569 :: o570 :: o571 :: o572 :: o573 :: o574 :: o575 :: o576 :: o577 :: o578 :: o579 :: o580 :: o581 :: o582 :: o583 :: o584 :: o585 :: o586 :: o587 :: o588 :: o589 :: o590 :: o591 :: o592 :: o593 :: o594 :: o595 :: o596 :: o597 :: o598 :: o599 :: o600 :: o601 :: o602 :: o603 :: o604 :: o605 :: o606 :: o607 :: o608 :: o609 :: o610 :: o611 :: o612 :: o613 :: o614 :: o615 :: o616 :: o617 :: o618 :: o619 :: o620 P :: o621_1 :: o622 :: o623 :: o624 :: o625 :: o626 P :: o627 :: o628 :: o629 :: o630 :: o631 :: o632 :: o633 :: o634 :: o635 :: o636 :: o637 :: o638 :: o639 :: o640 :: o641 :: o642 :: o643 :: o644 :: o645 :: o646 :: o647 :: o648 :: o649 :: o650 :: o651 :: o652 :: o653 :: o654 :: o655 :: o656 :: o657 :: o658 :: o659 :: o660 :: o661 :: o662 :: o663 :: o664 :: o665 :: o666 :: o667 :: o668 :: o669 :: o670 :: o671 :: o672 :: o673 :: o674 :: o675 :: o676 :: o677 :: o678 :: o679 :: o680 :: o681 :: o682 :: o683 :: o684 :: o685 :: o686 :: o687 :: o688 :: o689 :: o690 :: o691 :: o692 :: o693 :: o694 :: o695 :: o696 :: o697 :: o698 :: o699 :: o700 :: o701 :: o702 :: o703 :: o704 :: o705 :: o706 :: o707 :: o708 :: o709 :: o710 :: o711 :: o712 :: o713 :: o714 :: o715 :: o716 :: o717 :: o718 :: o719 :: o720 :: o721 :: o722 :: o723 :: o724 :: o725 :: o726 :: o727 :: o728 :: o729 :: o730 :: o731 :: o732 :: o733 :: o734 :: o735 :: o736 :: o737 :: o738 :: o739 P :: o740 :: o741 :: o742 :: o743 :: o744 :: o745 :: o746 :: o747 :: o748 :: o749 :: o750 :: o751 :: o752 :: o753 :: o754 :: o755 :: o756 :: o757 :: o758 :: o759 :: o760 :: o761 :: o762 :: o763 :: o764 :: o765 :: o766 :: o767 :: o768 :: o769 :: o770 :: o771 :: o772 :: o773 :: o774 :: o775 :: o776 :: o777 :: o778 :: o779 :: o780 :: o781 :: o782 :: o783 :: o784 :: o785 :: o786 :: o787 :: o788 :: o789 :: o790 :: o791 :: o792 :: o793 :: o794 :: o795 :: o796 :: o797 :: o798 :: o799 :: o800 :: o801 :: o802 :: o803 :: o804 :: o805 :: o806 :: o807 :: o808 :: o809 :: o810 :: o811 :: o812 :: o813 :: o814 :: o815 :: o816 :: o817 :: o818 :: o819 :: []), {}⟩
noncomputable def tBlk (P : Params) : BT := (.node (boot_o_0 P) (.node (boot_o_1 P) (.node (boot_o_3 P) (.node (boot_o_7 P) .nil .nil) (.node o11 .nil .nil)) (.node (boot_o_5 P) (.node (boot_o_9 P) .nil .nil) (.node o13 .nil .nil))) (.node (boot_o_2 P) (.node (boot_o_4 P) (.node (boot_o_8 P) .nil .nil) (.node o12 .nil .nil)) (.node (boot_o_6 P) (.node (boot_o_10 P) .nil .nil) (.node o14 .nil .nil))))
noncomputable def tG0 (P : Params) : BT := (.node (boot_o_0 P) (.node (boot_o_1 P) (.node (o3 P) (.node (boot_o_7 P) (.node o15 (.node o31 (.node o63 (.node o127 .nil .nil) .nil) (.node o95 .nil .nil)) (.node o47 (.node o79 (.node o143 .nil .nil) .nil) (.node o111 .nil .nil))) (.node o23 (.node o39 (.node o71 (.node o135 .nil .nil) .nil) (.node o103 .nil .nil)) (.node o55 (.node o87 (.node o151 .nil .nil) .nil) (.node o119 .nil .nil)))) (.node o11 (.node o19 (.node o35 (.node o67 (.node o131 .nil .nil) .nil) (.node o99 .nil .nil)) (.node o51 (.node o83 (.node o147 .nil .nil) .nil) (.node o115 .nil .nil))) (.node o27 (.node o43 (.node o75 (.node o139 .nil .nil) .nil) (.node o107 .nil .nil)) (.node o59 (.node (o91 P) (.node o155 .nil .nil) .nil) (.node o123 .nil .nil))))) (.node (boot_o_5 P) (.node (boot_o_9 P) (.node o17 (.node o33 (.node o65 (.node o129 .nil .nil) .nil) (.node o97 .nil .nil)) (.node o49 (.node o81 (.node o145 .nil .nil) .nil) (.node o113 .nil .nil))) (.node o25 (.node o41 (.node o73 (.node o137 .nil .nil) .nil) (.node o105 .nil .nil)) (.node o57 (.node o89 (.node o153 .nil .nil) .nil) (.node o121 .nil .nil)))) (.node o13 (.node o21 (.node o37 (.node o69 (.node o133 .nil .nil) .nil) (.node o101 .nil .nil)) (.node (o53 P) (.node (o85 P) (.node o149 .nil .nil) .nil) (.node o117 .nil .nil))) (.node o29 (.node o45 (.node o77 (.node o141 .nil .nil) .nil) (.node o109 .nil .nil)) (.node o61 (.node o93 .nil .nil) (.node o125 .nil .nil)))))) (.node (o2 P) (.node (boot_o_4 P) (.node (boot_o_8 P) (.node o16 (.node o32 (.node o64 (.node o128 .nil .nil) .nil) (.node o96 .nil .nil)) (.node o48 (.node o80 (.node o144 .nil .nil) .nil) (.node o112 .nil .nil))) (.node (o24 P) (.node o40 (.node (o72 P) (.node o136 .nil .nil) .nil) (.node (o104 P) .nil .nil)) (.node o56 (.node o88 (.node o152 .nil .nil) .nil) (.node o120 .nil .nil)))) (.node o12_1 (.node o20 (.node o36 (.node o68 (.node o132 .nil .nil) .nil) (.node o100 .nil .nil)) (.node o52 (.node o84 (.node o148 .nil .nil) .nil) (.node o116 .nil .nil))) (.node o28 (.node o44 (.node o76 (.node o140 .nil .nil) .nil) (.node o108 .nil .nil)) (.node o60 (.node o92 (.node o156 .nil .nil) .nil) (.node o124 .nil .nil))))) (.node (boot_o_6 P) (.node (boot_o_10 P) (.node o18 (.node o34 (.node (o66 P) (.node o130 .nil .nil) .nil) (.node o98 .nil .nil)) (.node o50 (.node o82 (.node o146 .nil .nil) .nil) (.node o114 .nil .nil))) (.node o26 (.node o42 (.node o74 (.node o138 .nil .nil) .nil) (.node o106 .nil .nil)) (.node o58 (.node o90 (.node o154 .nil .nil) .nil) (.node o122 .nil .nil)))) (.node o14 (.node o22 (.node o38 (.node o70 (.node o134 .nil .nil) .nil) (.node o102 .nil .nil)) (.node o54 (.node o86 (.node o150 .nil .nil) .nil) (.node o118 .nil .nil))) (.node o30 (.node (o46 P) (.node o78 (.node o142 .nil .nil) .nil) (.node o110 .nil .nil)) (.node o62 (.node o94 .nil .nil) (.node o126 .nil .nil)))))))
noncomputable def tG1 (P : Params) : BT := (.node (boot_o_0 P) (.node (boot_o_1 P) (.node (o3_1 P) (.node (boot_o_7 P) (.node o15 (.node o31 (.node o63 (.node o127 .nil .nil) (.node o191 .nil .nil)) (.node o95 (.node o159 .nil .nil) .nil)) (.node o47 (.node o79 (.node o143 .nil .nil) (.node o207 .nil .nil)) (.node o111 (.node o175 .nil .nil) .nil))) (.node o23 (.node o39 (.node o71 (.node o135 .nil .nil) (.node o199 .nil .nil)) (.node o103 (.node o167 .nil .nil) .nil)) (.node o55 (.node o87 (.node o151 .nil .nil) .nil) (.node o119 (.node o183 .nil .nil) .nil)))) (.node o11 (.node o19 (.node o35 (.node o67 (.node o131 .nil .nil) (.node o195 .nil .nil)) (.node o99 (.node o163 .nil .nil) .nil)) (.node o51 (.node o83 (.node o147 .nil .nil) .nil) (.node o115 (.node o179 .nil .nil) .nil))) (.node o27 (.node o43 (.node o75 (.node o139 .nil .nil) (.node o203 .nil .nil)) (.node o107 (.node o171 .nil .nil) .nil)) (.node o59 (.node (o91 P) (.node o155 .nil .nil) .nil) (.node o123 (.node o187 .nil .nil) .nil))))) (.node (boot_o_5 P) (.node (boot_o_9 P) (.node o17 (.node o33 (.node o65 (.node o129 .nil .nil) (.node o193 .nil .nil)) (.node o97 (.node o161 .nil .nil) .nil)) (.node o49 (.node o81 (.node o145 .nil .nil) .nil) (.node o113 (.node o177 .nil .nil) .nil))) (.node o25 (.node o41 (.node o73 (.node o137 .nil .nil) (.node o201 .nil .nil)) (.node o105 (.node o169 .nil .nil) .nil)) (.node o57 (.node o89 (.node o153 .nil .nil) .nil) (.node o121 (.node o185 .nil .nil) .nil)))) (.node o13 (.node o21 (.node o37 (.node o69 (.node o133 .nil .nil) (.node o197 .nil .nil)) (.node o101 (.node o165 .nil .nil) .nil)) (.node (o53 P) (.node (o85 P) (.node o149 .nil .nil) .nil) (.node o117 (.node o181 .nil .nil) .nil))) (.node o29 (.node o45 (.node o77 (.node o141 .nil .nil) (.node o205 .nil .nil)) (.node o109 (.node o173 .nil .nil) .nil)) (.node o61 (.node o93 (.node o157 .nil .nil) .nil) (.node o125 (.node o189 .nil .nil) .nil)))))) (.node (o2 P) (.node (boot_o_4 P) (.node (boot_o_8 P) (.node o16 (.node o32 (.node o64 (.node o128 .nil .nil) (.node o192 .nil .nil)) (.node o96 (.node o160 .nil .nil) .nil)) (.node o48 (.node o80 (.node o144 .nil .nil) .nil) (.node o112 (.node o176 .nil .nil) .nil))) (.node (o24 P) (.node o40 (.node (o72 P) (.node o136 .nil .nil) (.node o200 .nil .nil)) (.node (o104 P) (.node o168 .nil .nil) .nil)) (.node o56 (.node o88 (.node o152 .nil .nil) .nil) (.node o120 (.node o184 .nil .nil) .nil)))) (.node o12_2 (.node o20 (.node o36 (.node o68 (.node o132 .nil .nil) (.node o196 .nil .nil)) (.node o100 (.node o164 .nil .nil) .nil)) (.node o52 (.node o84 (.node o148 .nil .nil) .nil) (.node o116 (.node o180 .nil .nil) .nil))) (.node o28 (.node o44 (.node o76 (.node o140 .nil .nil) (.node o204 .nil .nil)) (.node o108 (.node o172 .nil .nil) .nil)) (.node o60 (.node o92 (.node o156 .nil .nil) .nil) (.node o124 (.node o188 .nil .nil) .nil))))) (.node (boot_o_6 P) (.node (boot_o_10 P) (.node o18 (.node o34 (.node (o66 P) (.node o130 .nil .nil) (.node o194 .nil .nil)) (.node o98 (.node o162 .nil .nil) .nil)) (.node o50 (.node o82 (.node o146 .nil .nil) .nil) (.node o114 (.node o178 .nil .nil) .nil))) (.node o26 (.node o42 (.node o74 (.node o138 .nil .nil) (.node o202 .nil .nil)) (.node o106 (.node o170 .nil .nil) .nil)) (.node o58 (.node o90 (.node o154 .nil .nil) .nil) (.node o122 (.node o186 .nil .nil) .nil)))) (.node o14 (.node o22 (.node o38 (.node o70 (.node o134 .nil .nil) (.node o198 .nil .nil)) (.node o102 (.node o166 .nil .nil) .nil)) (.node o54 (.node o86 (.node o150 .nil .nil) .nil) (.node o118 (.node o182 .nil .nil) .nil))) (.node o30 (.node (o46 P) (.node o78 (.node o142 .nil .nil) (.node o206 .nil .nil)) (.node o110 (.node o174 .nil .nil) .nil)) (.node o62 (.node o94 (.node o158 .nil .nil) .nil) (.node o126 (.node o190 .nil .nil) .nil)))))))
noncomputable def tG2 (P : Params) : BT := (.node (boot_o_0 P) (.node (boot_o_1 P) (.node (o3_2 P) (.node (boot_o_7 P) (.node o15 (.node o31 (.node o63 (.node o127 (.node o255 .nil .nil) (.node o383 .nil .nil)) (.node o191 (.node o319 .nil .nil) .nil)) (.node o95 (.node o159 (.node o287 .nil .nil) (.node o415 .nil .nil)) (.node o223 (.node o351 .nil .nil) .nil))) (.node o47 (.node o79 (.node o143 (.node o271 .nil .nil) (.node o399 .nil .nil)) (.node o207 (.node o335 .nil .nil) .nil)) (.node o111 (.node o175 (.node o303 .nil .nil) .nil) (.node o239 (.node o367 .nil .nil) .nil)))) (.node o23 (.node o39 (.node o71 (.node o135 (.node o263 .nil .nil) (.node o391 .nil .nil)) (.node o199 (.node o327 .nil .nil) .nil)) (.node o103 (.node o167 (.node o295 .nil .nil) (.node o423 .nil .nil)) (.node o231 (.node o359 .nil .nil) .nil))) (.node o55 (.node o87 (.node o151 (.node o279 .nil .nil) (.node o407 .nil .nil)) (.node o215 (.node o343 .nil .nil) .nil)) (.node o119 (.node o183 (.node o311 .nil .nil) .nil) (.node o247 (.node o375 .nil .nil) .nil))))) (.node o11 (.node o19 (.node o35 (.node o67 (.node o131 (.node o259 .nil .nil) (.node o387 .nil .nil)) (.node o195 (.node o323 .nil .nil) .nil)) (.node o99 (.node o163 (.node o291 .nil .nil) (.node (o419 P) .nil .nil)) (.node o227 (.node o355 .nil .nil) .nil))) (.node o51 (.node o83 (.node o147 (.node o275 .nil .nil) (.node o403 .nil .nil)) (.node o211 (.node o339 .nil .nil) .nil)) (.node o115 (.node o179 (.node o307 .nil .nil) .nil) (.node o243 (.node o371 .nil .nil) .nil)))) (.node o27 (.node o43 (.node o75 (.node o139 (.node o267 .nil .nil) (.node o395 .nil .nil)) (.node o203 (.node o331 .nil .nil) .nil)) (.node o107 (.node o171 (.node o299 .nil .nil) .nil) (.node o235 (.node o363 .nil .nil) .nil))) (.node o59 (.node (o91 P) (.node o155 (.node o283 .nil .nil) (.node o411 .nil .nil)) (.node o219 (.node o347 .nil .nil) .nil)) (.node o123 (.node o187 (.node o315 .nil .nil) .nil) (.node o251 (.node o379 .nil .nil) .nil)))))) (.node (boot_o_5 P) (.node (boot_o_9 P) (.node o17 (.node o33 (.node o65 (.node o129 (.node o257 .nil .nil) (.node o385 .nil .nil)) (.node o193 (.node o321 .nil .nil) .nil)) (.node o97 (.node o161 (.node o289 .nil .nil) (.node o417 .nil .nil)) (.node o225 (.node o353 .nil .nil) .nil))) (.node o49 (.node o81 (.node o145 (.node o273 .nil .nil) (.node o401 .nil .nil)) (.node o209 (.node o337 .nil .nil) .nil)) (.node o113 (.node o177 (.node o305 .nil .nil) .nil) (.node o241 (.node o369 .nil .nil) .nil)))) (.node o25 (.node o41 (.node o73 (.node o137 (.node o265 .nil .nil) (.node o393 .nil .nil)) (.node o201 (.node o329 .nil .nil) .nil)) (.node o105 (.node o169 (.node o297 .nil .nil) .nil) (.node o233 (.node o361 .nil .nil) .nil))) (.node o57 (.node o89 (.node o153 (.node o281 .nil .nil) (.node o409 .nil .nil)) (.node o217 (.node o345 .nil .nil) .nil)) (.node o121 (.node o185 (.node o313 .nil .nil) .nil) (.node o249 (.node o377 .nil .nil) .nil))))) (.node o13 (.node o21 (.node o37 (.node o69 (.node o133 (.node o261 .nil .nil) (.node o389 .nil .nil)) (.node o197 (.node o325 .nil .nil) .nil)) (.node o101 (.node o165 (.node o293 .nil .nil) (.node o421 .nil .nil)) (.node o229 (.node o357 .nil .nil) .nil))) (.node (o53 P) (.node (o85 P) (.node o149 (.node o277 .nil .nil) (.node o405 .nil .nil)) (.node o213 (.node o341 .nil .nil) .nil)) (.node o117 (.node o181 (.node o309 .nil .nil) .nil) (.node o245 (.node o373 .nil .nil) .nil)))) (.node o29 (.node o45 (.node o77 (.node o141 (.node o269 .nil .nil) (.node o397 .nil .nil)) (.node o205 (.node o333 .nil .nil) .nil)) (.node o109 (.node o173 (.node o301 .nil .nil) .nil) (.node o237 (.node o365 .nil .nil) .nil))) (.node o61 (.node o93 (.node o157 (.node o285 .nil .nil) (.node o413 .nil .nil)) (.node o221 (.node o349 .nil .nil) .nil)) (.node o125 (.node o189 (.node o317 .nil .nil) .nil) (.node o253 (.node o381 .nil .nil) .nil))))))) (.node (o2 P) (.node (boot_o_4 P) (.node (boot_o_8 P) (.node o16 (.node o32 (.node o64 (.node o128 (.node o256 .nil .nil) (.node o384 .nil .nil)) (.node o192 (.node o320 .nil .nil) .nil)) (.node o96 (.node o160 (.node o288 .nil .nil) (.node o416 .nil .nil)) (.node o224 (.node o352 .nil .nil) .nil))) (.node o48 (.node o80 (.node o144 (.node o272 .nil .nil) (.node o400 .nil .nil)) (.node o208 (.node o336 .nil .nil) .nil)) (.node o112 (.node o176 (.node o304 .nil .nil) .nil) (.node o240 (.node o368 .nil .nil) .nil)))) (.node (o24 P) (.node o40 (.node (o72 P) (.node o136 (.node o264 .nil .nil) (.node o392 .nil .nil)) (.node o200 (.node o328 .nil .nil) .nil)) (.node (o104 P) (.node o168 (.node o296 .nil .nil) (.node o424 .nil .nil)) (.node o232 (.node o360 .nil .nil) .nil))) (.node o56 (.node o88 (.node o152 (.node o280 .nil .nil) (.node o408 .nil .nil)) (.node o216 (.node o344 .nil .nil) .nil)) (.node o120 (.node o184 (.node o312 .nil .nil) .nil) (.node o248 (.node o376 .nil .nil) .nil))))) (.node o12_3 (.node o20 (.node o36 (.node o68 (.node o132 (.node o260 .nil .nil) (.node o388 .nil .nil)) (.node o196 (.node o324 .nil .nil) .nil)) (.node o100 (.node o164 (.node o292 .nil .nil) (.node o420 .nil .nil)) (.node o228 (.node o356 .nil .nil) .nil))) (.node o52 (.node o84 (.node o148 (.node o276 .nil .nil) (.node o404 .nil .nil)) (.node o212 (.node o340 .nil .nil) .nil)) (.node o116 (.node o180 (.node o308 .nil .nil) .nil) (.node o244 (.node o372 .nil .nil) .nil)))) (.node o28 (.node o44 (.node o76 (.node o140 (.node o268 .nil .nil) (.node o396 .nil .nil)) (.node o204 (.node o332 .nil .nil) .nil)) (.node o108 (.node o172 (.node o300 .nil .nil) .nil) (.node o236 (.node o364 .nil .nil) .nil))) (.node o60 (.node o92 (.node o156 (.node o284 .nil .nil) (.node o412 .nil .nil)) (.node o220 (.node o348 .nil .nil) .nil)) (.node o124 (.node o188 (.node o316 .nil .nil) .nil) (.node o252 (.node o380 .nil .nil) .nil)))))) (.node (boot_o_6 P) (.node (boot_o_10 P) (.node o18 (.node o34 (.node (o66 P) (.node o130 (.node o258 .nil .nil) (.node o386 .nil .nil)) (.node o194 (.node o322 .nil .nil) .nil)) (.node o98 (.node o162 (.node o290 .nil .nil) (.node o418 .nil .nil)) (.node o226 (.node o354 .nil .nil) .nil))) (.node o50 (.node o82 (.node o146 (.node o274 .nil .nil) (.node o402 .nil .nil)) (.node (o210 P) (.node o338 .nil .nil) .nil)) (.node o114 (.node o178 (.node o306 .nil .nil) .nil) (.node o242 (.node o370 .nil .nil) .nil)))) (.node o26 (.node o42 (.node o74 (.node o138 (.node o266 .nil .nil) (.node o394 .nil .nil)) (.node o202 (.node o330 .nil .nil) .nil)) (.node o106 (.node o170 (.node o298 .nil .nil) .nil) (.node o234 (.node o362 .nil .nil) .nil))) (.node o58 (.node o90 (.node o154 (.node o282 .nil .nil) (.node o410 .nil .nil)) (.node o218 (.node o346 .nil .nil) .nil)) (.node o122 (.node o186 (.node o314 .nil .nil) .nil) (.node o250 (.node o378 .nil .nil) .nil))))) (.node o14 (.node o22 (.node o38 (.node o70 (.node o134 (.node o262 .nil .nil) (.node o390 .nil .nil)) (.node o198 (.node o326 .nil .nil) .nil)) (.node o102 (.node o166 (.node o294 .nil .nil) (.node o422 .nil .nil)) (.node o230 (.node o358 .nil .nil) .nil))) (.node o54 (.node o86 (.node o150 (.node o278 .nil .nil) (.node o406 .nil .nil)) (.node o214 (.node o342 .nil .nil) .nil)) (.node o118 (.node o182 (.node o310 .nil .nil) .nil) (.node o246 (.node o374 .nil .nil) .nil)))) (.node o30 (.node (o46 P) (.node o78 (.node o142 (.node o270 .nil .nil) (.node o398 .nil .nil)) (.node o206 (.node o334 .nil .nil) .nil)) (.node o110 (.node o174 (.node o302 .nil .nil) .nil) (.node o238 (.node o366 .nil .nil) .nil))) (.node o62 (.node o94 (.node o158 (.node o286 .nil .nil) (.node o414 .nil .nil)) (.node o222 (.node o350 .nil .nil) .nil)) (.node o126 (.node o190 (.node o318 .nil .nil) .nil) (.node o254 (.node o382 .nil .nil) .nil))))))))
noncomputable def tG3 (P : Params) : BT := (.node (boot_o_0 P) (.node (boot_o_1 P) (.node (o3_3 P) (.node (boot_o_7 P) (.node o15 (.node o31 (.node o63 (.node o127 (.node o255 (.node o511 .nil .nil) .nil) (.node o383 .nil .nil)) (.node o191 (.node o319 (.node o575 .nil .nil) .nil) (.node o447 .nil .nil))) (.node o95 (.node o159 (.node o287 (.node o543 .nil .nil) .nil) (.node o415 .nil .nil)) (.node o223 (.node o351 (.node o607 .nil .nil) .nil) (.node o479 .nil .nil)))) (.node o47 (.node o79 (.node o143 (.node o271 (.node o527 .nil .nil) .nil) (.node o399 .nil .nil)) (.node o207 (.node o335 (.node o591 .nil .nil) .nil) (.node o463 .nil .nil))) (.node o111 (.node o175 (.node o303 (.node o559 .nil .nil) .nil) (.node o431 .nil .nil)) (.node o239 (.node o367 (.node o623 .nil .nil) .nil) (.node o495 .nil .nil))))) (.node o23 (.node o39 (.node o71 (.node o135 (.node o263 (.node o519 .nil .nil) .nil) (.node o391 .nil .nil)) (.node o199 (.node o327 (.node o583 .nil .nil) .nil) (.node o455 .nil .nil))) (.node o103 (.node o167 (.node o295 (.node o551 .nil .nil) .nil) (.node o423 .nil .nil)) (.node o231 (.node o359 (.node o615 .nil .nil) .nil) (.node o487 .nil .nil)))) (.node o55 (.node o87 (.node o151 (.node o279 (.node o535 .nil .nil) .nil) (.node o407 .nil .nil)) (.node o215 (.node o343 (.node o599 .nil .nil) .nil) (.node o471 .nil .nil))) (.node o119 (.node o183 (.node o311 (.node o567 .nil .nil) .nil) (.node o439 .nil .nil)) (.node o247 (.node o375 .nil .nil) (.node o503 .nil .nil)))))) (.node o11 (.node o19 (.node o35 (.node o67 (.node o131 (.node o259 (.node o515 .nil .nil) .nil) (.node o387 .nil .nil)) (.node o195 (.node o323 (.node o579 .nil .nil) .nil) (.node o451 .nil .nil))) (.node o99 (.node o163 (.node o291 (.node o547 .nil .nil) .nil) (.node (o419 P) .nil .nil)) (.node o227 (.node o355 (.node o611 .nil .nil) .nil) (.node o483 .nil .nil)))) (.node o51 (.node o83 (.node o147 (.node o275 (.node o531 .nil .nil) .nil) (.node o403 .nil .nil)) (.node o211 (.node o339 (.node o595 .nil .nil) .nil) (.node o467 .nil .nil))) (.node o115 (.node o179 (.node o307 (.node o563 .nil .nil) .nil) (.node o435 .nil .nil)) (.node o243 (.node o371 .nil .nil) (.node o499 .nil .nil))))) (.node o27 (.node o43 (.node o75 (.node o139 (.node o267 (.node o523 .nil .nil) .nil) (.node o395 .nil .nil)) (.node o203 (.node o331 (.node o587 .nil .nil) .nil) (.node o459 .nil .nil))) (.node o107 (.node o171 (.node o299 (.node o555 .nil .nil) .nil) (.node (o427 P) .nil .nil)) (.node o235 (.node o363 (.node o619 .nil .nil) .nil) (.node o491 .nil .nil)))) (.node o59 (.node (o91 P) (.node o155 (.node o283 (.node o539 .nil .nil) .nil) (.node o411 .nil .nil)) (.node o219 (.node o347 (.node o603 .nil .nil) .nil) (.node o475 .nil .nil))) (.node o123 (.node o187 (.node o315 (.node o571 .nil .nil) .nil) (.node o443 .nil .nil)) (.node o251 (.node o379 .nil .nil) (.node o507 .nil .nil))))))) (.node (boot_o_5 P) (.node (boot_o_9 P) (.node o17 (.node o33 (.node o65 (.node o129 (.node o257 (.node o513 .nil .nil) .nil) (.node o385 .nil .nil)) (.node o193 (.node o321 (.node o577 .nil .nil) .nil) (.node o449 .nil .nil))) (.node o97 (.node o161 (.node o289 (.node o545 .nil .nil) .nil) (.node o417 .nil .nil)) (.node o225 (.node o353 (.node o609 .nil .nil) .nil) (.node o481 .nil .nil)))) (.node o49 (.node o81 (.node o145 (.node o273 (.node o529 .nil .nil) .nil) (.node o401 .nil .nil)) (.node o209 (.node o337 (.node o593 .nil .nil) .nil) (.node o465 .nil .nil))) (.node o113 (.node o177 (.node o305 (.node o561 .nil .nil) .nil) (.node o433 .nil .nil)) (.node o241 (.node o369 .nil .nil) (.node o497 .nil .nil))))) (.node o25 (.node o41 (.node o73 (.node o137 (.node o265 (.node o521 .nil .nil) .nil) (.node o393 .nil .nil)) (.node o201 (.node o329 (.node o585 .nil .nil) .nil) (.node o457 .nil .nil))) (.node o105 (.node o169 (.node o297 (.node o553 .nil .nil) .nil) (.node o425 .nil .nil)) (.node o233 (.node o361 (.node o617 .nil .nil) .nil) (.node o489 .nil .nil)))) (.node o57 (.node o89 (.node o153 (.node o281 (.node (o537 P) .nil .nil) .nil) (.node o409 .nil .nil)) (.node o217 (.node o345 (.node o601 .nil .nil) .nil) (.node o473 .nil .nil))) (.node o121 (.node o185 (.node o313 (.node o569 .nil .nil) .nil) (.node o441 .nil .nil)) (.node o249 (.node o377 .nil .nil) (.node o505 .nil .nil)))))) (.node o13 (.node o21 (.node o37 (.node o69 (.node o133 (.node o261 (.node o517 .nil .nil) .nil) (.node o389 .nil .nil)) (.node o197 (.node o325 (.node o581 .nil .nil) .nil) (.node o453 .nil .nil))) (.node o101 (.node o165 (.node o293 (.node o549 .nil .nil) .nil) (.node o421 .nil .nil)) (.node o229 (.node o357 (.node o613 .nil .nil) .nil) (.node o485 .nil .nil)))) (.node (o53 P) (.node (o85 P) (.node o149 (.node o277 (.node o533 .nil .nil) .nil) (.node o405 .nil .nil)) (.node o213 (.node o341 (.node o597 .nil .nil) .nil) (.node o469 .nil .nil))) (.node o117 (.node o181 (.node o309 (.node o565 .nil .nil) .nil) (.node o437 .nil .nil)) (.node o245 (.node o373 .nil .nil) (.node o501 .nil .nil))))) (.node o29 (.node o45 (.node o77 (.node o141 (.node o269 (.node o525 .nil .nil) .nil) (.node o397 .nil .nil)) (.node o205 (.node o333 (.node o589 .nil .nil) .nil) (.node o461 .nil .nil))) (.node o109 (.node o173 (.node o301 (.node o557 .nil .nil) .nil) (.node o429 .nil .nil)) (.node o237 (.node o365 (.node o621 .nil .nil) .nil) (.node o493 .nil .nil)))) (.node o61 (.node o93 (.node o157 (.node o285 (.node o541 .nil .nil) .nil) (.node o413 .nil .nil)) (.node o221 (.node o349 (.node o605 .nil .nil) .nil) (.node o477 .nil .nil))) (.node o125 (.node o189 (.node o317 (.node o573 .nil .nil) .nil) (.node o445 .nil .nil)) (.node o253 (.node o381 .nil .nil) (.node o509 .nil .nil)))))))) (.node (o2 P) (.node (boot_o_4 P) (.node (boot_o_8 P) (.node o16 (.node o32 (.node o64 (.node o128 (.node o256 (.node o512 .nil .nil) .nil) (.node o384 .nil .nil)) (.node o192 (.node o320 (.node o576 .nil .nil) .nil) (.node o448 .nil .nil))) (.node o96 (.node o160 (.node o288 (.node o544 .nil .nil) .nil) (.node o416 .nil .nil)) (.node o224 (.node o352 (.node o608 .nil .nil) .nil) (.node o480 .nil .nil)))) (.node o48 (.node o80 (.node o144 (.node o272 (.node o528 .nil .nil) .nil) (.node o400 .nil .nil)) (.node o208 (.node o336 (.node o592 .nil .nil) .nil) (.node o464 .nil .nil))) (.node o112 (.node o176 (.node o304 (.node o560 .nil .nil) .nil) (.node o432 .nil .nil)) (.node o240 (.node o368 .nil .nil) (.node o496 .nil .nil))))) (.node (o24 P) (.node o40 (.node (o72 P) (.node o136 (.node o264 (.node o520 .nil .nil) .nil) (.node o392 .nil .nil)) (.node o200 (.node o328 (.node o584 .nil .nil) .nil) (.node o456 .nil .nil))) (.node (o104 P) (.node o168 (.node o296 (.node o552 .nil .nil) .nil) (.node o424 .nil .nil)) (.node o232 (.node o360 (.node o616 .nil .nil) .nil) (.node o488 .nil .nil)))) (.node o56 (.node o88 (.node o152 (.node o280 (.node o536 .nil .nil) .nil) (.node o408 .nil .nil)) (.node o216 (.node o344 (.node o600 .nil .nil) .nil) (.node o472 .nil .nil))) (.node o120 (.node o184 (.node o312 (.node o568 .nil .nil) .nil) (.node o440 .nil .nil)) (.node o248 (.node o376 .nil .nil) (.node o504 .nil .nil)))))) (.node o12_4 (.node o20 (.node o36 (.node o68 (.node o132 (.node o260 (.node o516 .nil .nil) .nil) (.node o388 .nil .nil)) (.node o196 (.node o324 (.node o580 .nil .nil) .nil) (.node o452 .nil .nil))) (.node o100 (.node o164 (.node o292 (.node o548 .nil .nil) .nil) (.node o420_1 .nil .nil)) (.node o228 (.node o356 (.node o612 .nil .nil) .nil) (.node o484 .nil .nil)))) (.node o52 (.node o84 (.node o148 (.node o276 (.node o532 .nil .nil) .nil) (.node o404 .nil .nil)) (.node o212 (.node o340 (.node o596 .nil .nil) .nil) (.node o468 .nil .nil))) (.node o116 (.node o180 (.node o308 (.node o564 .nil .nil) .nil) (.node o436 .nil .nil)) (.node o244 (.node o372 .nil .nil) (.node o500 .nil .nil))))) (.node o28 (.node o44 (.node o76 (.node o140 (.node o268 (.node (o524 P) .nil .nil) .nil) (.node o396 .nil .nil)) (.node o204 (.node o332 (.node o588 .nil .nil) .nil) (.node o460 .nil .nil))) (.node o108 (.node o172 (.node o300 (.node o556 .nil .nil) .nil) (.node o428 .nil .nil)) (.node o236 (.node o364 (.node (o620 P) .nil .nil) .nil) (.node o492 .nil .nil)))) (.node o60 (.node o92 (.node o156 (.node o284 (.node o540 .nil .nil) .nil) (.node o412 .nil .nil)) (.node o220 (.node o348 (.node o604 .nil .nil) .nil) (.node o476 .nil .nil))) (.node o124 (.node o188 (.node o316 (.node o572 .nil .nil) .nil) (.node o444 .nil .nil)) (.node o252 (.node o380 .nil .nil) (.node o508 .nil .nil))))))) (.node (boot_o_6 P) (.node (boot_o_10 P) (.node o18 (.node o34 (.node (o66 P) (.node o130 (.node o258 (.node o514 .nil .nil) .nil) (.node o386 .nil .nil)) (.node o194 (.node o322 (.node o578 .nil .nil) .nil) (.node o450 .nil .nil))) (.node o98 (.node o162 (.node o290 (.node o546 .nil .nil) .nil) (.node o418 .nil .nil)) (.node o226 (.node o354 (.node o610 .nil .nil) .nil) (.node o482 .nil .nil)))) (.node o50 (.node o82 (.node o146 (.node o274 (.node o530 .nil .nil) .nil) (.node o402 .nil .nil)) (.node (o210 P) (.node o338 (.node o594 .nil .nil) .nil) (.node o466 .nil .nil))) (.node o114 (.node o178 (.node o306 (.node o562 .nil .nil) .nil) (.node o434 .nil .nil)) (.node o242 (.node o370 .nil .nil) (.node o498 .nil .nil))))) (.node o26 (.node o42 (.node o74 (.node o138 (.node o266 (.node o522 .nil .nil) .nil) (.node o394 .nil .nil)) (.node o202 (.node o330 (.node o586 .nil .nil) .nil) (.node o458 .nil .nil))) (.node o106 (.node o170 (.node o298 (.node o554 .nil .nil) .nil) (.node o426 .nil .nil)) (.node o234 (.node o362 (.node o618 .nil .nil) .nil) (.node o490 .nil .nil)))) (.node o58 (.node o90 (.node o154 (.node o282 (.node o538 .nil .nil) .nil) (.node o410 .nil .nil)) (.node o218 (.node o346 (.node o602 .nil .nil) .nil) (.node o474 .nil .nil))) (.node o122 (.node o186 (.node o314 (.node o570 .nil .nil) .nil) (.node o442 .nil .nil)) (.node o250 (.node o378 .nil .nil) (.node o506 .nil .nil)))))) (.node o14 (.node o22 (.node o38 (.node o70 (.node o134 (.node o262 (.node o518 .nil .nil) .nil) (.node o390 .nil .nil)) (.node o198 (.node o326 (.node o582 .nil .nil) .nil) (.node o454 .nil .nil))) (.node o102 (.node o166 (.node o294 (.node o550 .nil .nil) .nil) (.node o422 .nil .nil)) (.node o230 (.node o358 (.node o614 .nil .nil) .nil) (.node o486 .nil .nil)))) (.node o54 (.node o86 (.node o150 (.node o278 (.node o534 .nil .nil) .nil) (.node o406 .nil .nil)) (.node o214 (.node o342 (.node o598 .nil .nil) .nil) (.node o470 .nil .nil))) (.node o118 (.node o182 (.node o310 (.node o566 .nil .nil) .nil) (.node o438 .nil .nil)) (.node o246 (.node o374 .nil .nil) (.node o502 .nil .nil))))) (.node o30 (.node (o46 P) (.node o78 (.node o142 (.node o270 (.node o526 .nil .nil) .nil) (.node o398 .nil .nil)) (.node o206 (.node o334 (.node o590 .nil .nil) .nil) (.node o462 .nil .nil))) (.node o110 (.node o174 (.node o302 (.node o558 .nil .nil) .nil) (.node o430 .nil .nil)) (.node o238 (.node o366 (.node o622 .nil .nil) .nil) (.node o494 .nil .nil)))) (.node o62 (.node o94 (.node o158 (.node o286 (.node o542 .nil .nil) .nil) (.node o414 .nil .nil)) (.node o222 (.node o350 (.node o606 .nil .nil) .nil) (.node o478 .nil .nil))) (.node o126 (.node o190 (.node o318 (.node o574 .nil .nil) .nil) (.node o446 .nil .nil)) (.node o254 (.node o382 .nil .nil) (.node o510 .nil .nil)))))))))
noncomputable def tG4 (P : Params) : BT := (.node (boot_o_0 P) (.node (boot_o_1 P) (.node (o3_4 P) (.node (boot_o_7 P) (.node o15 (.node o31 (.node o63 (.node o127 (.node o255 (.node o511 .nil .nil) (.node o767 .nil .nil)) (.node o383 (.node o639 .nil .nil) .nil)) (.node o191 (.node o319 (.node o575 .nil .nil) .nil) (.node o447 (.node o703 .nil .nil) .nil))) (.node o95 (.node o159 (.node o287 (.node o543 .nil .nil) (.node o799 .nil .nil)) (.node o415 (.node o671 .nil .nil) .nil)) (.node o223 (.node o351 (.node o607 .nil .nil) .nil) (.node o479 (.node o735 .nil .nil) .nil)))) (.node o47 (.node o79 (.node o143 (.node o271 (.node o527 .nil .nil) (.node o783 .nil .nil)) (.node o399 (.node o655 .nil .nil) .nil)) (.node o207 (.node o335 (.node o591 .nil .nil) .nil) (.node o463 (.node o719 .nil .nil) .nil))) (.node o111 (.node o175 (.node o303 (.node o559 .nil .nil) (.node o815 .nil .nil)) (.node o431 (.node o687 .nil .nil) .nil)) (.node o239 (.node o367 (.node o623 .nil .nil) .nil) (.node o495 (.node o751 .nil .nil) .nil))))) (.node o23 (.node o39 (.node o71 (.node o135 (.node o263 (.node o519 .nil .nil) (.node o775 .nil .nil)) (.node o391 (.node o647 .nil .nil) .nil)) (.node o199 (.node o327 (.node o583 .nil .nil) .nil) (.node o455 (.node o711 .nil .nil) .nil))) (.node o103 (.node o167 (.node o295 (.node o551 .nil .nil) (.node o807 .nil .nil)) (.node o423 (.node o679 .nil .nil) .nil)) (.node o231 (.node o359 (.node o615 .nil .nil) .nil) (.node o487 (.node o743 .nil .nil) .nil)))) (.node o55 (.node o87 (.node o151 (.node o279 (.node o535 .nil .nil) (.node o791 .nil .nil)) (.node o407 (.node o663 .nil .nil) .nil)) (.node o215 (.node o343 (.node o599 .nil .nil) .nil) (.node o471 (.node o727 .nil .nil) .nil))) (.node o119 (.node o183 (.node o311 (.node o567 .nil .nil) .nil) (.node o439 (.node o695 .nil .nil) .nil)) (.node o247 (.node o375 (.node o631 .nil .nil) .nil) (.node o503 (.node o759 .nil .nil) .nil)))))) (.node o11 (.node o19 (.node o35 (.node o67 (.node o131 (.node o259 (.node o515 .nil .nil) (.node o771 .nil .nil)) (.node o387 (.node o643 .nil .nil) .nil)) (.node o195 (.node o323 (.node o579 .nil .nil) .nil) (.node o451 (.node o707 .nil .nil) .nil))) (.node o99 (.node o163 (.node o291 (.node o547 .nil .nil) (.node o803 .nil .nil)) (.node (o419 P) (.node o675 .nil .nil) .nil)) (.node o227 (.node o355 (.node o611 .nil .nil) .nil) (.node o483 (.node (o739 P) .nil .nil) .nil)))) (.node o51 (.node o83 (.node o147 (.node o275 (.node o531 .nil .nil) (.node o787 .nil .nil)) (.node o403 (.node o659 .nil .nil) .nil)) (.node o211 (.node o339 (.node o595 .nil .nil) .nil) (.node o467 (.node o723 .nil .nil) .nil))) (.node o115 (.node o179 (.node o307 (.node o563 .nil .nil) (.node o819 .nil .nil)) (.node o435 (.node o691 .nil .nil) .nil)) (.node o243 (.node o371 (.node o627 .nil .nil) .nil) (.node o499 (.node o755 .nil .nil) .nil))))) (.node o27 (.node o43 (.node o75 (.node o139 (.node o267 (.node o523 .nil .nil) (.node o779 .nil .nil)) (.node o395 (.node o651 .nil .nil) .nil)) (.node o203 (.node o331 (.node o587 .nil .nil) .nil) (.node o459 (.node o715 .nil .nil) .nil))) (.node o107 (.node o171 (.node o299 (.node o555 .nil .nil) (.node o811 .nil .nil)) (.node (o427 P) (.node o683 .nil .nil) .nil)) (.node o235 (.node o363 (.node o619 .nil .nil) .nil) (.node o491 (.node o747 .nil .nil) .nil)))) (.node o59 (.node (o91 P) (.node o155 (.node o283 (.node o539 .nil .nil) (.node o795 .nil .nil)) (.node o411 (.node o667 .nil .nil) .nil)) (.node o219 (.node o347 (.node o603 .nil .nil) .nil) (.node o475 (.node o731 .nil .nil) .nil))) (.node o123 (.node o187 (.node o315 (.node o571 .nil .nil) .nil) (.node o443 (.node o699 .nil .nil) .nil)) (.node o251 (.node o379 (.node o635 .nil .nil) .nil) (.node o507 (.node o763 .nil .nil) .nil))))))) (.node (boot_o_5 P) (.node (boot_o_9 P) (.node o17 (.node o33 (.node o65 (.node o129 (.node o257 (.node o513 .nil .nil) (.node o769 .nil .nil)) (.node o385 (.node o641 .nil .nil) .nil)) (.node o193 (.node o321 (.node o577 .nil .nil) .nil) (.node o449 (.node o705 .nil .nil) .nil))) (.node o97 (.node o161 (.node o289 (.node o545 .nil .nil) (.node o801 .nil .nil)) (.node o417 (.node o673 .nil .nil) .nil)) (.node o225 (.node o353 (.node o609 .nil .nil) .nil) (.node o481 (.node o737 .nil .nil) .nil)))) (.node o49 (.node o81 (.node o145 (.node o273 (.node o529 .nil .nil) (.node o785 .nil .nil)) (.node o401 (.node o657 .nil .nil) .nil)) (.node o209 (.node o337 (.node o593 .nil .nil) .nil) (.node o465 (.node o721 .nil .nil) .nil))) (.node o113 (.node o177 (.node o305 (.node o561 .nil .nil) (.node o817 .nil .nil)) (.node o433 (.node o689 .nil .nil) .nil)) (.node o241 (.node o369 (.node o625 .nil .nil) .nil) (.node o497 (.node o753 .nil .nil) .nil))))) (.node o25 (.node o41 (.node o73 (.node o137 (.node o265 (.node o521 .nil .nil) (.node o777 .nil .nil)) (.node o393 (.node o649 .nil .nil) .nil)) (.node o201 (.node o329 (.node o585 .nil .nil) .nil) (.node o457 (.node o713 .nil .nil) .nil))) (.node o105 (.node o169 (.node o297 (.node o553 .nil .nil) (.node o809 .nil .nil)) (.node o425 (.node o681 .nil .nil) .nil)) (.node o233 (.node o361 (.node o617 .nil .nil) .nil) (.node o489 (.node o745 .nil .nil) .nil)))) (.node o57 (.node o89 (.node o153 (.node o281 (.node (o537 P) .nil .nil) (.node o793 .nil .nil)) (.node o409 (.node o665 .nil .nil) .nil)) (.node o217 (.node o345 (.node o601 .nil .nil) .nil) (.node o473 (.node o729 .nil .nil) .nil))) (.node o121 (.node o185 (.node o313 (.node o569 .nil .nil) .nil) (.node o441 (.node o697 .nil .nil) .nil)) (.node o249 (.node o377 (.node o633 .nil .nil) .nil) (.node o505 (.node o761 .nil .nil) .nil)))))) (.node o13 (.node o21 (.node o37 (.node o69 (.node o133 (.node o261 (.node o517 .nil .nil) (.node o773 .nil .nil)) (.node o389 (.node o645 .nil .nil) .nil)) (.node o197 (.node o325 (.node o581 .nil .nil) .nil) (.node o453 (.node o709 .nil .nil) .nil))) (.node o101 (.node o165 (.node o293 (.node o549 .nil .nil) (.node o805 .nil .nil)) (.node o421 (.node o677 .nil .nil) .nil)) (.node o229 (.node o357 (.node o613 .nil .nil) .nil) (.node o485 (.node o741 .nil .nil) .nil)))) (.node (o53 P) (.node (o85 P) (.node o149 (.node o277 (.node o533 .nil .nil) (.node o789 .nil .nil)) (.node o405 (.node o661 .nil .nil) .nil)) (.node o213 (.node o341 (.node o597 .nil .nil) .nil) (.node o469 (.node o725 .nil .nil) .nil))) (.node o117 (.node o181 (.node o309 (.node o565 .nil .nil) .nil) (.node o437 (.node o693 .nil .nil) .nil)) (.node o245 (.node o373 (.node o629 .nil .nil) .nil) (.node o501 (.node o757 .nil .nil) .nil))))) (.node o29 (.node o45 (.node o77 (.node o141 (.node o269 (.node o525 .nil .nil) (.node o781 .nil .nil)) (.node o397 (.node o653 .nil .nil) .nil)) (.node o205 (.node o333 (.node o589 .nil .nil) .nil) (.node o461 (.node o717 .nil .nil) .nil))) (.node o109 (.node o173 (.node o301 (.node o557 .nil .nil) (.node o813 .nil .nil)) (.node o429 (.node o685 .nil .nil) .nil)) (.node o237 (.node o365 (.node o621_1 .nil .nil) .nil) (.node o493 (.node o749 .nil .nil) .nil)))) (.node o61 (.node o93 (.node o157 (.node o285 (.node o541 .nil .nil) (.node o797 .nil .nil)) (.node o413 (.node o669 .nil .nil) .nil)) (.node o221 (.node o349 (.node o605 .nil .nil) .nil) (.node o477 (.node o733 .nil .nil) .nil))) (.node o125 (.node o189 (.node o317 (.node o573 .nil .nil) .nil) (.node o445 (.node o701 .nil .nil) .nil)) (.node o253 (.node o381 (.node o637 .nil .nil) .nil) (.node o509 (.node o765 .nil .nil) .nil)))))))) (.node (o2 P) (.node (boot_o_4 P) (.node (boot_o_8 P) (.node o16 (.node o32 (.node o64 (.node o128 (.node o256 (.node o512 .nil .nil) (.node o768 .nil .nil)) (.node o384 (.node o640 .nil .nil) .nil)) (.node o192 (.node o320 (.node o576 .nil .nil) .nil) (.node o448 (.node o704 .nil .nil) .nil))) (.node o96 (.node o160 (.node o288 (.node o544 .nil .nil) (.node o800 .nil .nil)) (.node o416 (.node o672 .nil .nil) .nil)) (.node o224 (.node o352 (.node o608 .nil .nil) .nil) (.node o480 (.node o736 .nil .nil) .nil)))) (.node o48 (.node o80 (.node o144 (.node o272 (.node o528 .nil .nil) (.node o784 .nil .nil)) (.node o400 (.node o656 .nil .nil) .nil)) (.node o208 (.node o336 (.node o592 .nil .nil) .nil) (.node o464 (.node o720 .nil .nil) .nil))) (.node o112 (.node o176 (.node o304 (.node o560 .nil .nil) (.node o816 .nil .nil)) (.node o432 (.node o688 .nil .nil) .nil)) (.node o240 (.node o368 (.node o624 .nil .nil) .nil) (.node o496 (.node o752 .nil .nil) .nil))))) (.node (o24 P) (.node o40 (.node (o72 P) (.node o136 (.node o264 (.node o520 .nil .nil) (.node o776 .nil .nil)) (.node o392 (.node o648 .nil .nil) .nil)) (.node o200 (.node o328 (.node o584 .nil .nil) .nil) (.node o456 (.node o712 .nil .nil) .nil))) (.node (o104 P) (.node o168 (.node o296 (.node o552 .nil .nil) (.node o808 .nil .nil)) (.node o424 (.node o680 .nil .nil) .nil)) (.node o232 (.node o360 (.node o616 .nil .nil) .nil) (.node o488 (.node o744 .nil .nil) .nil)))) (.node o56 (.node o88 (.node o152 (.node o280 (.node o536 .nil .nil) (.node o792 .nil .nil)) (.node o408 (.node o664 .nil .nil) .nil)) (.node o216 (.node o344 (.node o600 .nil .nil) .nil) (.node o472 (.node o728 .nil .nil) .nil))) (.node o120 (.node o184 (.node o312 (.node o568 .nil .nil) .nil) (.node o440 (.node o696 .nil .nil) .nil)) (.node o248 (.node o376 (.node o632 .nil .nil) .nil) (.node o504 (.node o760 .nil .nil) .nil)))))) (.node o12_5 (.node o20 (.node o36 (.node o68 (.node o132 (.node o260 (.node o516 .nil .nil) (.node o772 .nil .nil)) (.node o388 (.node o644 .nil .nil) .nil)) (.node o196 (.node o324 (.node o580 .nil .nil) .nil) (.node o452 (.node o708 .nil .nil) .nil))) (.node o100 (.node o164 (.node o292 (.node o548 .nil .nil) (.node o804 .nil .nil)) (.node o420_1 (.node o676 .nil .nil) .nil)) (.node o228 (.node o356 (.node o612 .nil .nil) .nil) (.node o484 (.node o740 .nil .nil) .nil)))) (.node o52 (.node o84 (.node o148 (.node o276 (.node o532 .nil .nil) (.node o788 .nil .nil)) (.node o404 (.node o660 .nil .nil) .nil)) (.node o212 (.node o340 (.node o596 .nil .nil) .nil) (.node o468 (.node o724 .nil .nil) .nil))) (.node o116 (.node o180 (.node o308 (.node o564 .nil .nil) .nil) (.node o436 (.node o692 .nil .nil) .nil)) (.node o244 (.node o372 (.node o628 .nil .nil) .nil) (.node o500 (.node o756 .nil .nil) .nil))))) (.node o28 (.node o44 (.node o76 (.node o140 (.node o268 (.node (o524 P) .nil .nil) (.node o780 .nil .nil)) (.node o396 (.node o652 .nil .nil) .nil)) (.node o204 (.node o332 (.node o588 .nil .nil) .nil) (.node o460 (.node o716 .nil .nil) .nil))) (.node o108 (.node o172 (.node o300 (.node o556 .nil .nil) (.node o812 .nil .nil)) (.node o428 (.node o684 .nil .nil) .nil)) (.node o236 (.node o364 (.node (o620 P) .nil .nil) .nil) (.node o492 (.node o748 .nil .nil) .nil)))) (.node o60 (.node o92 (.node o156 (.node o284 (.node o540 .nil .nil) (.node o796 .nil .nil)) (.node o412 (.node o668 .nil .nil) .nil)) (.node o220 (.node o348 (.node o604 .nil .nil) .nil) (.node o476 (.node o732 .nil .nil) .nil))) (.node o124 (.node o188 (.node o316 (.node o572 .nil .nil) .nil) (.node o444 (.node o700 .nil .nil) .nil)) (.node o252 (.node o380 (.node o636 .nil .nil) .nil) (.node o508 (.node o764 .nil .nil) .nil))))))) (.node (boot_o_6 P) (.node (boot_o_10 P) (.node o18 (.node o34 (.node (o66 P) (.node o130 (.node o258 (.node o514 .nil .nil) (.node o770 .nil .nil)) (.node o386 (.node o642 .nil .nil) .nil)) (.node o194 (.node o322 (.node o578 .nil .nil) .nil) (.node o450 (.node o706 .nil .nil) .nil))) (.node o98 (.node o162 (.node o290 (.node o546 .nil .nil) (.node o802 .nil .nil)) (.node o418 (.node o674 .nil .nil) .nil)) (.node o226 (.node o354 (.node o610 .nil .nil) .nil) (.node o482 (.node o738 .nil .nil) .nil)))) (.node o50 (.node o82 (.node o146 (.node o274 (.node o530 .nil .nil) (.node o786 .nil .nil)) (.node o402 (.node o658 .nil .nil) .nil)) (.node (o210 P) (.node o338 (.node o594 .nil .nil) .nil) (.node o466 (.node o722 .nil .nil) .nil))) (.node o114 (.node o178 (.node o306 (.node o562 .nil .nil) (.node o818 .nil .nil)) (.node o434 (.node o690 .nil .nil) .nil)) (.node o242 (.node o370 (.node (o626 P) .nil .nil) .nil) (.node o498 (.node o754 .nil .nil) .nil))))) (.node o26 (.node o42 (.node o74 (.node o138 (.node o266 (.node o522 .nil .nil) (.node o778 .nil .nil)) (.node o394 (.node o650 .nil .nil) .nil)) (.node o202 (.node o330 (.node o586 .nil .nil) .nil) (.node o458 (.node o714 .nil .nil) .nil))) (.node o106 (.node o170 (.node o298 (.node o554 .nil .nil) (.node o810 .nil .nil)) (.node o426 (.node o682 .nil .nil) .nil)) (.node o234 (.node o362 (.node o618 .nil .nil) .nil) (.node o490 (.node o746 .nil .nil) .nil)))) (.node o58 (.node o90 (.node o154 (.node o282 (.node o538 .nil .nil) (.node o794 .nil .nil)) (.node o410 (.node o666 .nil .nil) .nil)) (.node o218 (.node o346 (.node o602 .nil .nil) .nil) (.node o474 (.node o730 .nil .nil) .nil))) (.node o122 (.node o186 (.node o314 (.node o570 .nil .nil) .nil) (.node o442 (.node o698 .nil .nil) .nil)) (.node o250 (.node o378 (.node o634 .nil .nil) .nil) (.node o506 (.node o762 .nil .nil) .nil)))))) (.node o14 (.node o22 (.node o38 (.node o70 (.node o134 (.node o262 (.node o518 .nil .nil) (.node o774 .nil .nil)) (.node o390 (.node o646 .nil .nil) .nil)) (.node o198 (.node o326 (.node o582 .nil .nil) .nil) (.node o454 (.node o710 .nil .nil) .nil))) (.node o102 (.node o166 (.node o294 (.node o550 .nil .nil) (.node o806 .nil .nil)) (.node o422 (.node o678 .nil .nil) .nil)) (.node o230 (.node o358 (.node o614 .nil .nil) .nil) (.node o486 (.node o742 .nil .nil) .nil)))) (.node o54 (.node o86 (.node o150 (.node o278 (.node o534 .nil .nil) (.node o790 .nil .nil)) (.node o406 (.node o662 .nil .nil) .nil)) (.node o214 (.node o342 (.node o598 .nil .nil) .nil) (.node o470 (.node o726 .nil .nil) .nil))) (.node o118 (.node o182 (.node o310 (.node o566 .nil .nil) .nil) (.node o438 (.node o694 .nil .nil) .nil)) (.node o246 (.node o374 (.node o630 .nil .nil) .nil) (.node o502 (.node o758 .nil .nil) .nil))))) (.node o30 (.node (o46 P) (.node o78 (.node o142 (.node o270 (.node o526 .nil .nil) (.node o782 .nil .nil)) (.node o398 (.node o654 .nil .nil) .nil)) (.node o206 (.node o334 (.node o590 .nil .nil) .nil) (.node o462 (.node o718 .nil .nil) .nil))) (.node o110 (.node o174 (.node o302 (.node o558 .nil .nil) (.node o814 .nil .nil)) (.node o430 (.node o686 .nil .nil) .nil)) (.node o238 (.node o366 (.node o622 .nil .nil) .nil) (.node o494 (.node o750 .nil .nil) .nil)))) (.node o62 (.node o94 (.node o158 (.node o286 (.node o542 .nil .nil) (.node o798 .nil .nil)) (.node o414 (.node o670 .nil .nil) .nil)) (.node o222 (.node o350 (.node o606 .nil .nil) .nil) (.node o478 (.node o734 .nil .nil) .nil))) (.node o126 (.node o190 (.node o318 (.node o574 .nil .nil) .nil) (.node o446 (.node o702 .nil .nil) .nil)) (.node o254 (.node o382 (.node o638 .nil .nil) .nil) (.node o510 (.node o766 .nil .nil) .nil)))))))))
noncomputable def kF (P : Params) : Frag := (nat_lit 2, o2 P) :: (nat_lit 3, o3_4 P) :: (nat_lit 15, o15) :: (nat_lit 17, o17) :: (nat_lit 18, o18) :: (nat_lit 20, o20) :: (nat_lit 21, o21) :: (nat_lit 22, o22) :: (nat_lit 25, o25) :: (nat_lit 30, o30) :: (nat_lit 31, o31) :: (nat_lit 33, o33) :: (nat_lit 34, o34) :: (nat_lit 36, o36) :: (nat_lit 37, o37) :: (nat_lit 38, o38) :: (nat_lit 40, o40) :: (nat_lit 41, o41) :: (nat_lit 43, o43) :: (nat_lit 44, o44) :: (nat_lit 45, o45) :: (nat_lit 46, o46 P) :: (nat_lit 47, o47) :: (nat_lit 48, o48) :: (nat_lit 51, o51) :: (nat_lit 58, o58) :: (nat_lit 60, o60) :: (nat_lit 61, o61) :: (nat_lit 63, o63) :: (nat_lit 64, o64) :: (nat_lit 65, o65) :: (nat_lit 66, o66 P) :: (nat_lit 67, o67) :: (nat_lit 70, o70) :: (nat_lit 77, o77) :: (nat_lit 79, o79) :: (nat_lit 80, o80) :: (nat_lit 82, o82) :: (nat_lit 83, o83) :: (nat_lit 84, o84) :: (nat_lit 85, o85 P) :: (nat_lit 86, o86) :: (nat_lit 89, o89) :: (nat_lit 96, o96) :: (nat_lit 98, o98) :: (nat_lit 99, o99) :: (nat_lit 101, o101) :: (nat_lit 102, o102) :: (nat_lit 103, o103) :: (nat_lit 104, o104 P) :: (nat_lit 105, o105) :: (nat_lit 108, o108) :: (nat_lit 110, o110) :: (nat_lit 111, o111) :: (nat_lit 113, o113) :: (nat_lit 114, o114) :: (nat_lit 115, o115) :: (nat_lit 117, o117) :: (nat_lit 118, o118) :: (nat_lit 120, o120) :: (nat_lit 121, o121) :: (nat_lit 122, o122) :: (nat_lit 124, o124) :: (nat_lit 125, o125) :: (nat_lit 127, o127) :: (nat_lit 128, o128) :: (nat_lit 129, o129) :: (nat_lit 131, o131) :: (nat_lit 132, o132) :: (nat_lit 134, o134) :: (nat_lit 135, o135) :: (nat_lit 136, o136) :: (nat_lit 138, o138) :: (nat_lit 139, o139) :: (nat_lit 141, o141) :: (nat_lit 142, o142) :: (nat_lit 143, o143) :: (nat_lit 145, o145) :: (nat_lit 146, o146) :: (nat_lit 148, o148) :: (nat_lit 149, o149) :: (nat_lit 150, o150) :: (nat_lit 152, o152) :: (nat_lit 153, o153) :: (nat_lit 155, o155) :: (nat_lit 156, o156) :: (nat_lit 157, o157) :: (nat_lit 159, o159) :: (nat_lit 160, o160) :: (nat_lit 162, o162) :: (nat_lit 163, o163) :: (nat_lit 164, o164) :: (nat_lit 166, o166) :: (nat_lit 167, o167) :: (nat_lit 169, o169) :: (nat_lit 170, o170) :: (nat_lit 171, o171) :: (nat_lit 173, o173) :: (nat_lit 174, o174) :: (nat_lit 176, o176) :: (nat_lit 177, o177) :: (nat_lit 178, o178) :: (nat_lit 180, o180) :: (nat_lit 181, o181) :: (nat_lit 183, o183) :: (nat_lit 184, o184) :: (nat_lit 185, o185) :: (nat_lit 187, o187) :: (nat_lit 188, o188) :: (nat_lit 190, o190) :: (nat_lit 191, o191) :: (nat_lit 192, o192) :: (nat_lit 194, o194) :: (nat_lit 195, o195) :: (nat_lit 197, o197) :: (nat_lit 198, o198) :: (nat_lit 199, o199) :: (nat_lit 201, o201) :: (nat_lit 202, o202) :: (nat_lit 204, o204) :: (nat_lit 205, o205) :: (nat_lit 206, o206) :: (nat_lit 207, o207) :: (nat_lit 215, o215) :: (nat_lit 217, o217) :: (nat_lit 218, o218) :: (nat_lit 220, o220) :: (nat_lit 221, o221) :: (nat_lit 222, o222) :: (nat_lit 224, o224) :: (nat_lit 225, o225) :: (nat_lit 227, o227) :: (nat_lit 228, o228) :: (nat_lit 229, o229) :: (nat_lit 231, o231) :: (nat_lit 232, o232) :: (nat_lit 234, o234) :: (nat_lit 235, o235) :: (nat_lit 236, o236) :: (nat_lit 238, o238) :: (nat_lit 239, o239) :: (nat_lit 241, o241) :: (nat_lit 242, o242) :: (nat_lit 243, o243) :: (nat_lit 245, o245) :: (nat_lit 246, o246) :: (nat_lit 248, o248) :: (nat_lit 249, o249) :: (nat_lit 250, o250) :: (nat_lit 252, o252) :: (nat_lit 253, o253) :: (nat_lit 255, o255) :: (nat_lit 256, o256) :: (nat_lit 257, o257) :: (nat_lit 259, o259) :: (nat_lit 260, o260) :: (nat_lit 262, o262) :: (nat_lit 263, o263) :: (nat_lit 264, o264) :: (nat_lit 266, o266) :: (nat_lit 267, o267) :: (nat_lit 269, o269) :: (nat_lit 270, o270) :: (nat_lit 271, o271) :: (nat_lit 273, o273) :: (nat_lit 274, o274) :: (nat_lit 276, o276) :: (nat_lit 277, o277) :: (nat_lit 278, o278) :: (nat_lit 280, o280) :: (nat_lit 281, o281) :: (nat_lit 283, o283) :: (nat_lit 284, o284) :: (nat_lit 285, o285) :: (nat_lit 287, o287) :: (nat_lit 288, o288) :: (nat_lit 290, o290) :: (nat_lit 291, o291) :: (nat_lit 292, o292) :: (nat_lit 294, o294) :: (nat_lit 295, o295) :: (nat_lit 297, o297) :: (nat_lit 298, o298) :: (nat_lit 299, o299) :: (nat_lit 301, o301) :: (nat_lit 302, o302) :: (nat_lit 304, o304) :: (nat_lit 305, o305) :: (nat_lit 306, o306) :: (nat_lit 308, o308) :: (nat_lit 309, o309) :: (nat_lit 311, o311) :: (nat_lit 312, o312) :: (nat_lit 313, o313) :: (nat_lit 315, o315) :: (nat_lit 316, o316) :: (nat_lit 318, o318) :: (nat_lit 319, o319) :: (nat_lit 320, o320) :: (nat_lit 322, o322) :: (nat_lit 323, o323) :: (nat_lit 325, o325) :: (nat_lit 326, o326) :: (nat_lit 327, o327) :: (nat_lit 329, o329) :: (nat_lit 330, o330) :: (nat_lit 332, o332) :: (nat_lit 333, o333) :: (nat_lit 334, o334) :: (nat_lit 336, o336) :: (nat_lit 337, o337) :: (nat_lit 339, o339) :: (nat_lit 340, o340) :: (nat_lit 341, o341) :: (nat_lit 343, o343) :: (nat_lit 344, o344) :: (nat_lit 346, o346) :: (nat_lit 347, o347) :: (nat_lit 348, o348) :: (nat_lit 350, o350) :: (nat_lit 351, o351) :: (nat_lit 353, o353) :: (nat_lit 354, o354) :: (nat_lit 355, o355) :: (nat_lit 357, o357) :: (nat_lit 358, o358) :: (nat_lit 360, o360) :: (nat_lit 361, o361) :: (nat_lit 362, o362) :: (nat_lit 364, o364) :: (nat_lit 365, o365) :: (nat_lit 367, o367) :: (nat_lit 368, o368) :: (nat_lit 369, o369) :: (nat_lit 371, o371) :: (nat_lit 372, o372) :: (nat_lit 374, o374) :: (nat_lit 375, o375) :: (nat_lit 376, o376) :: (nat_lit 378, o378) :: (nat_lit 379, o379) :: (nat_lit 381, o381) :: (nat_lit 382, o382) :: (nat_lit 383, o383) :: (nat_lit 385, o385) :: (nat_lit 386, o386) :: (nat_lit 388, o388) :: (nat_lit 389, o389) :: (nat_lit 390, o390) :: (nat_lit 392, o392) :: (nat_lit 393, o393) :: (nat_lit 395, o395) :: (nat_lit 396, o396) :: (nat_lit 397, o397) :: (nat_lit 399, o399) :: (nat_lit 400, o400) :: (nat_lit 402, o402) :: (nat_lit 403, o403) :: (nat_lit 404, o404) :: (nat_lit 406, o406) :: (nat_lit 407, o407) :: (nat_lit 409, o409) :: (nat_lit 410, o410) :: (nat_lit 411, o411) :: (nat_lit 413, o413) :: (nat_lit 414, o414) :: (nat_lit 416, o416) :: (nat_lit 417, o417) :: (nat_lit 418, o418) :: (nat_lit 419, o419 P) :: (nat_lit 420, o420_1) :: (nat_lit 421, o421) :: (nat_lit 422, o422) :: (nat_lit 425, o425) :: (nat_lit 432, o432) :: (nat_lit 434, o434) :: (nat_lit 435, o435) :: (nat_lit 437, o437) :: (nat_lit 438, o438) :: (nat_lit 439, o439) :: (nat_lit 441, o441) :: (nat_lit 442, o442) :: (nat_lit 444, o444) :: (nat_lit 445, o445) :: (nat_lit 446, o446) :: (nat_lit 448, o448) :: (nat_lit 449, o449) :: (nat_lit 451, o451) :: (nat_lit 452, o452) :: (nat_lit 453, o453) :: (nat_lit 455, o455) :: (nat_lit 456, o456) :: (nat_lit 458, o458) :: (nat_lit 459, o459) :: (nat_lit 460, o460) :: (nat_lit 462, o462) :: (nat_lit 463, o463) :: (nat_lit 465, o465) :: (nat_lit 466, o466) :: (nat_lit 467, o467) :: (nat_lit 469, o469) :: (nat_lit 470, o470) :: (nat_lit 472, o472) :: (nat_lit 473, o473) :: (nat_lit 474, o474) :: (nat_lit 476, o476) :: (nat_lit 477, o477) :: (nat_lit 479, o479) :: (nat_lit 480, o480) :: (nat_lit 481, o481) :: (nat_lit 483, o483) :: (nat_lit 484, o484) :: (nat_lit 486, o486) :: (nat_lit 487, o487) :: (nat_lit 488, o488) :: (nat_lit 490, o490) :: (nat_lit 491, o491) :: (nat_lit 493, o493) :: (nat_lit 494, o494) :: (nat_lit 495, o495) :: (nat_lit 497, o497) :: (nat_lit 498, o498) :: (nat_lit 500, o500) :: (nat_lit 501, o501) :: (nat_lit 502, o502) :: (nat_lit 504, o504) :: (nat_lit 505, o505) :: (nat_lit 507, o507) :: (nat_lit 508, o508) :: (nat_lit 509, o509) :: (nat_lit 511, o511) :: (nat_lit 512, o512) :: (nat_lit 514, o514) :: (nat_lit 515, o515) :: (nat_lit 516, o516) :: (nat_lit 518, o518) :: (nat_lit 519, o519) :: (nat_lit 521, o521) :: (nat_lit 522, o522) :: (nat_lit 523, o523) :: (nat_lit 524, o524 P) :: (nat_lit 525, o525) :: (nat_lit 528, o528) :: (nat_lit 530, o530) :: (nat_lit 531, o531) :: (nat_lit 533, o533) :: (nat_lit 534, o534) :: (nat_lit 535, o535) :: (nat_lit 542, o542) :: (nat_lit 544, o544) :: (nat_lit 545, o545) :: (nat_lit 547, o547) :: (nat_lit 548, o548) :: (nat_lit 549, o549) :: (nat_lit 551, o551) :: (nat_lit 552, o552) :: (nat_lit 554, o554) :: (nat_lit 555, o555) :: (nat_lit 556, o556) :: (nat_lit 558, o558) :: (nat_lit 559, o559) :: (nat_lit 561, o561) :: (nat_lit 562, o562) :: (nat_lit 563, o563) :: (nat_lit 565, o565) :: (nat_lit 566, o566) :: (nat_lit 568, o568) :: (nat_lit 569, o569) :: (nat_lit 570, o570) :: (nat_lit 572, o572) :: (nat_lit 573, o573) :: (nat_lit 575, o575) :: (nat_lit 576, o576) :: (nat_lit 577, o577) :: (nat_lit 579, o579) :: (nat_lit 580, o580) :: (nat_lit 582, o582) :: (nat_lit 583, o583) :: (nat_lit 584, o584) :: (nat_lit 586, o586) :: (nat_lit 587, o587) :: (nat_lit 589, o589) :: (nat_lit 590, o590) :: (nat_lit 591, o591) :: (nat_lit 593, o593) :: (nat_lit 594, o594) :: (nat_lit 596, o596) :: (nat_lit 597, o597) :: (nat_lit 598, o598) :: (nat_lit 600, o600) :: (nat_lit 601, o601) :: (nat_lit 603, o603) :: (nat_lit 604, o604) :: (nat_lit 605, o605) :: (nat_lit 607, o607) :: (nat_lit 608, o608) :: (nat_lit 610, o610) :: (nat_lit 611, o611) :: (nat_lit 612, o612) :: (nat_lit 614, o614) :: (nat_lit 615, o615) :: (nat_lit 617, o617) :: (nat_lit 618, o618) :: (nat_lit 619, o619) :: (nat_lit 620, o620 P) :: (nat_lit 621, o621_1) :: (nat_lit 624, o624) :: (nat_lit 627, o627) :: (nat_lit 632, o632) :: (nat_lit 633, o633) :: (nat_lit 635, o635) :: (nat_lit 636, o636) :: (nat_lit 638, o638) :: (nat_lit 639, o639) :: (nat_lit 640, o640) :: (nat_lit 642, o642) :: (nat_lit 643, o643) :: (nat_lit 645, o645) :: (nat_lit 646, o646) :: (nat_lit 647, o647) :: (nat_lit 649, o649) :: (nat_lit 650, o650) :: (nat_lit 652, o652) :: (nat_lit 653, o653) :: (nat_lit 654, o654) :: (nat_lit 656, o656) :: (nat_lit 657, o657) :: (nat_lit 659, o659) :: (nat_lit 660, o660) :: (nat_lit 661, o661) :: (nat_lit 663, o663) :: (nat_lit 664, o664) :: (nat_lit 666, o666) :: (nat_lit 667, o667) :: (nat_lit 668, o668) :: (nat_lit 670, o670) :: (nat_lit 671, o671) :: (nat_lit 673, o673) :: (nat_lit 674, o674) :: (nat_lit 675, o675) :: (nat_lit 677, o677) :: (nat_lit 678, o678) :: (nat_lit 680, o680) :: (nat_lit 681, o681) :: (nat_lit 682, o682) :: (nat_lit 684, o684) :: (nat_lit 685, o685) :: (nat_lit 687, o687) :: (nat_lit 688, o688) :: (nat_lit 689, o689) :: (nat_lit 691, o691) :: (nat_lit 692, o692) :: (nat_lit 694, o694) :: (nat_lit 695, o695) :: (nat_lit 696, o696) :: (nat_lit 698, o698) :: (nat_lit 699, o699) :: (nat_lit 701, o701) :: (nat_lit 702, o702) :: (nat_lit 703, o703) :: (nat_lit 705, o705) :: (nat_lit 706, o706) :: (nat_lit 708, o708) :: (nat_lit 709, o709) :: (nat_lit 710, o710) :: (nat_lit 712, o712) :: (nat_lit 713, o713) :: (nat_lit 715, o715) :: (nat_lit 716, o716) :: (nat_lit 717, o717) :: (nat_lit 719, o719) :: (nat_lit 720, o720) :: (nat_lit 722, o722) :: (nat_lit 723, o723) :: (nat_lit 724, o724) :: (nat_lit 726, o726) :: (nat_lit 727, o727) :: (nat_lit 729, o729) :: (nat_lit 730, o730) :: (nat_lit 731, o731) :: (nat_lit 733, o733) :: (nat_lit 734, o734) :: (nat_lit 736, o736) :: (nat_lit 737, o737) :: (nat_lit 738, o738) :: (nat_lit 739, o739 P) :: (nat_lit 740, o740) :: (nat_lit 743, o743) :: (nat_lit 745, o745) :: (nat_lit 746, o746) :: (nat_lit 748, o748) :: (nat_lit 749, o749) :: (nat_lit 750, o750) :: (nat_lit 752, o752) :: (nat_lit 753, o753) :: (nat_lit 755, o755) :: (nat_lit 756, o756) :: (nat_lit 757, o757) :: (nat_lit 759, o759) :: (nat_lit 760, o760) :: (nat_lit 762, o762) :: (nat_lit 763, o763) :: (nat_lit 764, o764) :: (nat_lit 767, o767) :: (nat_lit 768, o768) :: (nat_lit 769, o769) :: (nat_lit 771, o771) :: (nat_lit 772, o772) :: (nat_lit 774, o774) :: (nat_lit 775, o775) :: (nat_lit 776, o776) :: (nat_lit 777, o777) :: (nat_lit 779, o779) :: (nat_lit 780, o780) :: (nat_lit 782, o782) :: (nat_lit 783, o783) :: (nat_lit 784, o784) :: (nat_lit 786, o786) :: (nat_lit 787, o787) :: (nat_lit 789, o789) :: (nat_lit 790, o790) :: (nat_lit 791, o791) :: (nat_lit 793, o793) :: (nat_lit 794, o794) :: (nat_lit 796, o796) :: (nat_lit 797, o797) :: (nat_lit 798, o798) :: (nat_lit 800, o800) :: (nat_lit 801, o801) :: (nat_lit 803, o803) :: (nat_lit 804, o804) :: (nat_lit 805, o805) :: (nat_lit 808, o808) :: (nat_lit 809, o809) :: (nat_lit 810, o810) :: (nat_lit 813, o813) :: (nat_lit 814, o814) :: (nat_lit 815, o815) :: (nat_lit 818, o818) :: (nat_lit 819, o819) :: []
noncomputable def kAs : List Addr := 2 :: 3 :: 15 :: 17 :: 18 :: 20 :: 21 :: 22 :: 25 :: 30 :: 31 :: 33 :: 34 :: 36 :: 37 :: 38 :: 40 :: 41 :: 43 :: 44 :: 45 :: 46 :: 47 :: 48 :: 51 :: 58 :: 60 :: 61 :: 63 :: 64 :: 65 :: 66 :: 67 :: 70 :: 77 :: 79 :: 80 :: 82 :: 83 :: 84 :: 85 :: 86 :: 89 :: 96 :: 98 :: 99 :: 101 :: 102 :: 103 :: 104 :: 105 :: 108 :: 110 :: 111 :: 113 :: 114 :: 115 :: 117 :: 118 :: 120 :: 121 :: 122 :: 124 :: 125 :: 127 :: 128 :: 129 :: 131 :: 132 :: 134 :: 135 :: 136 :: 138 :: 139 :: 141 :: 142 :: 143 :: 145 :: 146 :: 148 :: 149 :: 150 :: 152 :: 153 :: 155 :: 156 :: 157 :: 159 :: 160 :: 162 :: 163 :: 164 :: 166 :: 167 :: 169 :: 170 :: 171 :: 173 :: 174 :: 176 :: 177 :: 178 :: 180 :: 181 :: 183 :: 184 :: 185 :: 187 :: 188 :: 190 :: 191 :: 192 :: 194 :: 195 :: 197 :: 198 :: 199 :: 201 :: 202 :: 204 :: 205 :: 206 :: 207 :: 215 :: 217 :: 218 :: 220 :: 221 :: 222 :: 224 :: 225 :: 227 :: 228 :: 229 :: 231 :: 232 :: 234 :: 235 :: 236 :: 238 :: 239 :: 241 :: 242 :: 243 :: 245 :: 246 :: 248 :: 249 :: 250 :: 252 :: 253 :: 255 :: 256 :: 257 :: 259 :: 260 :: 262 :: 263 :: 264 :: 266 :: 267 :: 269 :: 270 :: 271 :: 273 :: 274 :: 276 :: 277 :: 278 :: 280 :: 281 :: 283 :: 284 :: 285 :: 287 :: 288 :: 290 :: 291 :: 292 :: 294 :: 295 :: 297 :: 298 :: 299 :: 301 :: 302 :: 304 :: 305 :: 306 :: 308 :: 309 :: 311 :: 312 :: 313 :: 315 :: 316 :: 318 :: 319 :: 320 :: 322 :: 323 :: 325 :: 326 :: 327 :: 329 :: 330 :: 332 :: 333 :: 334 :: 336 :: 337 :: 339 :: 340 :: 341 :: 343 :: 344 :: 346 :: 347 :: 348 :: 350 :: 351 :: 353 :: 354 :: 355 :: 357 :: 358 :: 360 :: 361 :: 362 :: 364 :: 365 :: 367 :: 368 :: 369 :: 371 :: 372 :: 374 :: 375 :: 376 :: 378 :: 379 :: 381 :: 382 :: 383 :: 385 :: 386 :: 388 :: 389 :: 390 :: 392 :: 393 :: 395 :: 396 :: 397 :: 399 :: 400 :: 402 :: 403 :: 404 :: 406 :: 407 :: 409 :: 410 :: 411 :: 413 :: 414 :: 416 :: 417 :: 418 :: 419 :: 420 :: 421 :: 422 :: 425 :: 432 :: 434 :: 435 :: 437 :: 438 :: 439 :: 441 :: 442 :: 444 :: 445 :: 446 :: 448 :: 449 :: 451 :: 452 :: 453 :: 455 :: 456 :: 458 :: 459 :: 460 :: 462 :: 463 :: 465 :: 466 :: 467 :: 469 :: 470 :: 472 :: 473 :: 474 :: 476 :: 477 :: 479 :: 480 :: 481 :: 483 :: 484 :: 486 :: 487 :: 488 :: 490 :: 491 :: 493 :: 494 :: 495 :: 497 :: 498 :: 500 :: 501 :: 502 :: 504 :: 505 :: 507 :: 508 :: 509 :: 511 :: 512 :: 514 :: 515 :: 516 :: 518 :: 519 :: 521 :: 522 :: 523 :: 524 :: 525 :: 528 :: 530 :: 531 :: 533 :: 534 :: 535 :: 542 :: 544 :: 545 :: 547 :: 548 :: 549 :: 551 :: 552 :: 554 :: 555 :: 556 :: 558 :: 559 :: 561 :: 562 :: 563 :: 565 :: 566 :: 568 :: 569 :: 570 :: 572 :: 573 :: 575 :: 576 :: 577 :: 579 :: 580 :: 582 :: 583 :: 584 :: 586 :: 587 :: 589 :: 590 :: 591 :: 593 :: 594 :: 596 :: 597 :: 598 :: 600 :: 601 :: 603 :: 604 :: 605 :: 607 :: 608 :: 610 :: 611 :: 612 :: 614 :: 615 :: 617 :: 618 :: 619 :: 620 :: 621 :: 624 :: 627 :: 632 :: 633 :: 635 :: 636 :: 638 :: 639 :: 640 :: 642 :: 643 :: 645 :: 646 :: 647 :: 649 :: 650 :: 652 :: 653 :: 654 :: 656 :: 657 :: 659 :: 660 :: 661 :: 663 :: 664 :: 666 :: 667 :: 668 :: 670 :: 671 :: 673 :: 674 :: 675 :: 677 :: 678 :: 680 :: 681 :: 682 :: 684 :: 685 :: 687 :: 688 :: 689 :: 691 :: 692 :: 694 :: 695 :: 696 :: 698 :: 699 :: 701 :: 702 :: 703 :: 705 :: 706 :: 708 :: 709 :: 710 :: 712 :: 713 :: 715 :: 716 :: 717 :: 719 :: 720 :: 722 :: 723 :: 724 :: 726 :: 727 :: 729 :: 730 :: 731 :: 733 :: 734 :: 736 :: 737 :: 738 :: 739 :: 740 :: 743 :: 745 :: 746 :: 748 :: 749 :: 750 :: 752 :: 753 :: 755 :: 756 :: 757 :: 759 :: 760 :: 762 :: 763 :: 764 :: 767 :: 768 :: 769 :: 771 :: 772 :: 774 :: 775 :: 776 :: 777 :: 779 :: 780 :: 782 :: 783 :: 784 :: 786 :: 787 :: 789 :: 790 :: 791 :: 793 :: 794 :: 796 :: 797 :: 798 :: 800 :: 801 :: 803 :: 804 :: 805 :: 808 :: 809 :: 810 :: 813 :: 814 :: 815 :: 818 :: 819 :: []
noncomputable abbrev pE : Program := PySem.Challenge.pw_qz0021_01
noncomputable abbrev bE : List Stmt := behindTheImports pE
noncomputable def envE : Env := { scope := pE.main.scope, locals := mainNs, globals := mainNs, cells := [], code := .ref 13, frame := some 14 }
noncomputable abbrev cE : Code := .body bE envE
noncomputable abbrev qE : Pos := ⟨0, 0, 0, 0⟩
noncomputable abbrev BE : List Frame := [topFrame qE]
noncomputable def pV : Program := { pE with main := { pE.main with body := [0, 2, 3, 4, 5, 7, 8, 9, 10, 12, 13, 14, 15, 16, 17, 18, 19, 20, 21, 22, 23, 24, 25, 26, 27, 28, 29, 30, 31, 32, 33, 35, 37, 38, 39, 40, 42, 43, 44, 45, 46, 47].filterMap fun i => pE.main.body[i]? } }
noncomputable abbrev looseE : List Str := [Str.ofString "MOST_BITS", Str.ofString "_law_of"]
noncomputable abbrev readE : List (Str × WData) := [(Str.ofString "MOST_BITS", WData.int 65536)]
noncomputable def sts0 : List Stmt := (bE.drop 0).take 15
noncomputable def sts1 : List Stmt := (bE.drop 15).take 14
noncomputable def sts2 : List Stmt := (bE.drop 29).take 1
noncomputable def sts3 : List Stmt := (bE.drop 30).take 3
noncomputable def sts4 : List Stmt := (bE.drop 33).take 15
theorem e_0 : bE = sts0 ++ bE.drop 15 := by kernel_rfl
theorem e_1 : bE.drop 15 = sts1 ++ bE.drop 29 := by kernel_rfl
theorem e_2 : bE.drop 29 = sts2 ++ bE.drop 30 := by kernel_rfl
theorem e_3 : bE.drop 30 = sts3 ++ bE.drop 33 := by kernel_rfl
theorem e_4 : bE.drop 33 = sts4 ++ [] := by kernel_rfl
section
variable (w : World) (os : OsState)
theorem r_pre : topGo treeTable pE w (nat_lit 11) (some (.ref 6)) (nat_lit 12) ⟨boot_heap w.params, .mk [], boot_drawn, boot_toks, os⟩ (topStub pE) = some ((⟨hPre w.params, .mk [], {}, nat_lit 187, os⟩ : Shared), (⟨denote treeTable cE, cE, qE, BE⟩ : Thread)) := by
  rewrite [PySem.W.Fast.te15667345088766844465, PySem.W.Fast.te14364793385576792824, PySem.W.Fast.te11892475500146522536]; kernel_rfl
theorem r_blk : segRun treeTable pE w (nat_lit 11) (some (.ref 6)) (nat_lit 1) (nat_lit 1) ⟨hPre w.params, .mk [], {}, nat_lit 187, os⟩ (blockOf bE envE cE qE BE) = some (.next, (SharedT.abs ⟨tBlk w.params, nat_lit 15, {}, .mk [], {}, nat_lit 187, os⟩), cE, ⟨0, 0, 0, 0⟩) := by
  rewrite [PySem.W.Fast.te14374325043358763698, PySem.W.Fast.te14364793385576792824]; kernel_rfl
theorem r_0 : segRunT treeTable pE w (nat_lit 11) (some (.ref 6)) (nat_lit 1) (nat_lit 1271) ⟨tBlk w.params, nat_lit 15, {}, .mk [], {}, nat_lit 187, os⟩ (piecesOf sts0 envE cE ⟨0, 0, 0, 0⟩ BE) = some (.next, ⟨tG0 w.params, nat_lit 157, {}, .mk [], {}, nat_lit 363, os⟩, cE, ⟨49, 0, 54, 63⟩) := by
  rewrite [PySem.W.Fast.te10110043849684766642, PySem.W.Fast.te14364793385576792824]; kernel_rfl
theorem r_1 : segRunT treeTable pE w (nat_lit 11) (some (.ref 6)) (nat_lit 1) (nat_lit 304) ⟨tG0 w.params, nat_lit 157, {}, .mk [], {}, nat_lit 363, os⟩ (piecesOf sts1 envE cE ⟨49, 0, 54, 63⟩ BE) = some (.next, ⟨tG1 w.params, nat_lit 208, {}, .mk [], {}, nat_lit 455, os⟩, cE, ⟨95, 0, 95, 6⟩) := by
  rewrite [PySem.W.Fast.te10110043849684766642, PySem.W.Fast.te14364793385576792824]; kernel_rfl
theorem r_2 : segRunT treeTable pE w (nat_lit 11) (some (.ref 6)) (nat_lit 1) (nat_lit 1150) ⟨tG1 w.params, nat_lit 208, {}, .mk [], {}, nat_lit 455, os⟩ (piecesOf sts2 envE cE ⟨95, 0, 95, 6⟩ BE) = some (.next, ⟨tG2 w.params, nat_lit 425, {}, .mk [], {}, nat_lit 739, os⟩, cE, ⟨96, 0, 223, 20⟩) := by
  rewrite [PySem.W.Fast.te10110043849684766642, PySem.W.Fast.te14364793385576792824]; kernel_rfl
theorem r_3 : segRunT treeTable pE w (nat_lit 11) (some (.ref 6)) (nat_lit 1) (nat_lit 1259) ⟨tG2 w.params, nat_lit 425, {}, .mk [], {}, nat_lit 739, os⟩ (piecesOf sts3 envE cE ⟨96, 0, 223, 20⟩ BE) = some (.next, ⟨tG3 w.params, nat_lit 624, {}, .mk [], {}, nat_lit 993, os⟩, cE, ⟨282, 0, 331, 17⟩) := by
  rewrite [PySem.W.Fast.te10110043849684766642, PySem.W.Fast.te14364793385576792824]; kernel_rfl
theorem r_4 : segRunT treeTable pE w (nat_lit 11) (some (.ref 6)) (nat_lit 1) (nat_lit 1145) ⟨tG3 w.params, nat_lit 624, {}, .mk [], {}, nat_lit 993, os⟩ (piecesOf sts4 envE cE ⟨282, 0, 331, 17⟩ BE) = some (.next, ⟨tG4 w.params, nat_lit 820, {}, .mk [], {}, nat_lit 1268, os⟩, cE, ⟨517, 0, 531, 112⟩) := by
  rewrite [PySem.W.Fast.te10110043849684766642, PySem.W.Fast.te14364793385576792824]; kernel_rfl
theorem r_fin : topRun treeTable pE w (nat_lit 11) (some (.ref 6)) (nat_lit 2) (SharedT.abs ⟨tG4 w.params, nat_lit 820, {}, .mk [], {}, nat_lit 1268, os⟩) ⟨doneF .next, cE, ⟨517, 0, 531, 112⟩, BE⟩ = some ⟨hFin w.params, .mk [], {}, nat_lit 1268, os⟩ := by
  rewrite [PySem.W.Fast.te14082659384304107361, PySem.W.Fast.te14364793385576792824]; kernel_rfl
theorem p_app {n N : Nat} {s s' r : Shared} {l rest all : List Stmt} {pos p' : Pos} (he : all = l ++ rest) (h : segRun treeTable pE w (nat_lit 11) (some (.ref 6)) (nat_lit 1) n s (piecesOf l envE cE pos BE) = some (.next, s', cE, p'))
    (k : topRun treeTable pE w (nat_lit 11) (some (.ref 6)) N s' (restOf rest envE cE p' BE) = some r) : topRun treeTable pE w (nat_lit 11) (some (.ref 6)) (Nat.add n N) s (restOf all envE cE pos BE) = some r := by
  subst he
  exact piece_app h k
theorem r_all : topRun treeTable pE w (nat_lit 11) (some (.ref 6)) (Nat.add (nat_lit 12) (Nat.add (nat_lit 1) (Nat.add (nat_lit 1271) (Nat.add (nat_lit 304) (Nat.add (nat_lit 1150) (Nat.add (nat_lit 1259) (Nat.add (nat_lit 1145) (nat_lit 2)))))))) ⟨boot_heap w.params, .mk [], boot_drawn, boot_toks, os⟩ (topStub pE) = some ⟨hFin w.params, .mk [], {}, nat_lit 1268, os⟩ :=
  go_top (r_pre w os) (piece_block (r_blk w os) (p_app w e_0 (segRun_of (r_0 w os)) (p_app w e_1 (segRun_of (r_1 w os)) (p_app w e_2 (segRun_of (r_2 w os)) (p_app w e_3 (segRun_of (r_3 w os)) (p_app w e_4 (segRun_of (r_4 w os)) (r_fin w os)))))))
end
theorem l_size (w : World) : ((boot_heap w.params).isNs mainGlobals && (Array.mk ([] : List GenState)).size == 0, (boot_heap w.params).objs.size, (boot_heap w.params).nsMap mainGlobals "__annotations__") = (true, nat_lit 11, some (.ref 6)) := by
  rewrite [PySem.W.Fast.te8920871248978507458]; kernel_rfl
theorem l_stat (w : World) (os : OsState) : (staticsOk (importedModules pE.main.body) (boot_heap w.params) (hFin w.params) && namesBound pE (hFin w.params) && gensDone (⟨hFin w.params, .mk [], {}, nat_lit 1268, os⟩ : Shared) && laidKept (boot_heap w.params) (hFin w.params)) = true := by
  rewrite [PySem.W.Fast.te5923862056798008813]; kernel_rfl
theorem l_seen (w : World) (os : OsState) : seen ((recsOf pV).map (·.name)) (ownsOf pV) [] { (⟨hFin w.params, .mk [], {}, nat_lit 1268, os⟩ : Shared) with gens := #[] } = expectedOf pV := by
  rewrite [PySem.W.Fast.te5160383126252970620, PySem.W.Fast.te3399658132070893891, PySem.W.Fast.te5991557255702980513]; kernel_rfl
theorem l_blt (w : World) (os : OsState) : (⟨hFin w.params, .mk [], {}, nat_lit 1268, os⟩ : Shared).heap.bltView = bltViewBooted := by
  kernel_rfl
theorem l_keys (w : World) (os : OsState) : ((⟨hFin w.params, .mk [], {}, nat_lit 1268, os⟩ : Shared).heap.keysOk (looseW pV looseE) ((recsOf pV).map (·.name)) ((litsOf pV).map (·.1)) ((clssOf pV (looseW pV looseE)).map (·.name)) && (⟨hFin w.params, .mk [], {}, nat_lit 1268, os⟩ : Shared).heap.accountedOkI (importedModules pE.main.body) && (⟨hFin w.params, .mk [], {}, nat_lit 1268, os⟩ : Shared).heap.isNs mainGlobals && (⟨hFin w.params, .mk [], {}, nat_lit 1268, os⟩ : Shared).heap.isNs builtinsNs && tablesOk pV (⟨hFin w.params, .mk [], {}, nat_lit 1268, os⟩ : Shared).heap && (xlAt pV readE (⟨hFin w.params, .mk [], {}, nat_lit 1268, os⟩ : Shared) && recOk PySem.Challenge.rw_qz0021_01.row.toRowW.records (⟨hFin w.params, .mk [], {}, nat_lit 1268, os⟩ : Shared)) && ((⟨hFin w.params, .mk [], {}, nat_lit 1268, os⟩ : Shared).gens.size == 0)) = true := by
  rewrite [PySem.W.Fast.te10880121769531294198, PySem.W.Fast.te821141287760084731, PySem.W.Fast.te3399658132070893891, PySem.W.Fast.te7409074990110511671, PySem.W.Fast.te13664370479719496447, PySem.W.Fast.te14722251495701143533, PySem.W.Fast.te5923862056798008813, PySem.W.Fast.te10994771534591457954]; kernel_rfl
theorem l_tabs (w : World) (os : OsState) : tabsOk pV (⟨hFin w.params, .mk [], {}, nat_lit 1268, os⟩ : Shared) = true := by
  rewrite [PySem.W.Fast.te479339242167458305]; kernel_rfl
theorem l_pin (w : World) (os : OsState) : pinSeenD pV (drecsOf pV) (⟨hFin w.params, .mk [], {}, nat_lit 1268, os⟩ : Shared) = pinGoodD (drecsOf pV) := by
  rewrite [PySem.W.Fast.te16090120013241838585, PySem.W.Fast.te3247288618530077131]; kernel_rfl
theorem l_plE (w : World) (os : OsState) : plainSeenE pV (looseW pV looseE) (⟨hFin w.params, .mk [], {}, nat_lit 1268, os⟩ : Shared) = plainGoodE pV (looseW pV looseE) := by
  rewrite [PySem.W.Fast.te2386780881361962483, PySem.W.Fast.te821141287760084731]; kernel_rfl
theorem l_plD (w : World) (os : OsState) : plainSeenD pV looseE (⟨hFin w.params, .mk [], {}, nat_lit 1268, os⟩ : Shared) = plainGoodD pV looseE := by
  rewrite [PySem.W.Fast.te11698064438423848299]; kernel_rfl
theorem l_wide (w : World) (os : OsState) : wideSeen pV (⟨hFin w.params, .mk [], {}, nat_lit 1268, os⟩ : Shared) = wideGood pV := by
  rewrite [PySem.W.Fast.te7317090234206586261]; kernel_rfl
theorem l_cls (w : World) (os : OsState) : clsSeenW pV looseE (⟨hFin w.params, .mk [], {}, nat_lit 1268, os⟩ : Shared) = clsGoodW pV looseE := by
  rewrite [PySem.W.Fast.te7369524293546568484]; kernel_rfl
theorem k_as (P : Params) : kAs = (kF P).map (·.1) := by kernel_rfl
noncomputable abbrev kH : Hook := kHook kF kAs k_as
def pick : List Nat → List Obj → Nat → Frag
  | [], _, _ => []
  | _ :: _, [], _ => []
  | a :: as, o :: os, n => match Nat.beq a n with
    | true => (n, o) :: pick as os (Nat.succ n)
    | false => pick (a :: as) os (Nat.succ n)
theorem pick_get : ∀ (as : List Nat) (os pre : List Obj), ∀ p ∈ pick as os pre.length, (pre ++ os)[p.1]? = some p.2
  | [], _, _, _, h => by unfold pick at h; cases h
  | _ :: _, [], _, _, h => by unfold pick at h; cases h
  | a :: as, o :: os, pre, p, h => by
    have e : pre ++ o :: os = (pre ++ [o]) ++ os := by simp
    have hl : (pre ++ [o]).length = pre.length + 1 := by simp
    unfold pick at h
    cases hb : Nat.beq a pre.length with
    | true =>
      rw [hb] at h
      rcases List.mem_cons.mp h with rfl | h
      · show (pre ++ o :: os)[pre.length]? = some o
        simp
      · rw [e]
        exact pick_get as os (pre ++ [o]) p (by rw [hl]; exact h)
    | false =>
      rw [hb] at h
      rw [e]
      exact pick_get (a :: as) os (pre ++ [o]) p (by rw [hl]; exact h)
def live (o : Obj) : Bool := match o.data with
  | .freed => false
  | _ => true
theorem get_live {h : Heap} {a : Addr} {o : Obj} (e : h.objs[a]? = some o) (l : live o = true) : h.get? a = some o := by
  unfold Heap.get?
  rw [e]
  obtain ⟨c, d, x, sl⟩ := o
  cases x <;> first | rfl | cases l
theorem kF_live (P : Params) : (kF P).all (fun p => live p.2) = true := by kernel_rfl
theorem kF_pick (P : Params) : kF P = pick kAs (hFin P).objs.toList 0 := by kernel_rfl
theorem l_obs (w : World) (os : OsState) : kH.obs (⟨hFin w.params, .mk [], {}, nat_lit 1268, os⟩ : Shared) = kH.val w := by
  show kAs.map (hFin w.params).get? = (kF w.params).map fun p => some p.2
  rw [k_as w.params, List.map_map]
  refine List.map_congr_left fun p hp => ?_
  rw [kF_pick] at hp
  refine get_live ?_ (List.all_eq_true.mp (kF_live w.params) p (by rw [kF_pick]; exact hp))
  rw [← Array.getElem?_toList]
  exact pick_get kAs (hFin w.params).objs.toList [] p hp
theorem leftO : LeftO pE pV looseE (fun s => xlAt pV readE s && recOk PySem.Challenge.rw_qz0021_01.row.toRowW.records s) kH.obs kH.val (nat_lit 10374) :=
  LeftO.of_pieces (H₀ := boot_heap) (H₁ := hFin) (gs₀ := .mk []) (gs₁ := .mk []) (d₀ := boot_drawn) (d₁ := {}) (k₀ := boot_toks) (k₁ := nat_lit 1268) (m₀ := nat_lit 11) (ann := some (.ref 6)) (M := (Nat.add (nat_lit 12) (Nat.add (nat_lit 1) (Nat.add (nat_lit 1271) (Nat.add (nat_lit 304) (Nat.add (nat_lit 1150) (Nat.add (nat_lit 1259) (Nat.add (nat_lit 1145) (nat_lit 2)))))))))
    (boot_open (by kernel_rfl) (by kernel_rfl) (fun s => by kernel_rfl)) l_size r_all (by kernel_rfl)
    (fun w => funext fun os => looks_pair (l_stat w os) (looks_pair (looks_pair (l_seen w os) (looks_pair (l_blt w os) (looks_pair (l_keys w os) (looks_pair (l_tabs w os) (looks_pair (l_pin w os) (looks_pair (l_plE w os) (looks_pair (l_plD w os) (looks_pair (l_wide w os) (l_cls w os))))))))) (l_obs w os)))
theorem wellS : PySem.Challenge.rw_qz0021_01.wellSaid = true := by
  rewrite [PySem.W.Fast.te9446332074065402090]; kernel_rfl
theorem witS : PySem.Challenge.rw_qz0021_01.row.toRowW.promised := by w_witness2
theorem hd {d : DefRec} {kwd : List (Str × PySem.Expr)} (hdef : defOf pV PySem.Challenge.rw_qz0021_01.row.name = some (d, kwd)) (hp : PySem.Challenge.rw_qz0021_01.row.prog.theDef PySem.Challenge.rw_qz0021_01.row.name = some (d.params, d.body, d.scope)) (hk : kwWritten? d.params.kwonlyargs d.params.kw_defaults = some kwd)
    (hc : WalkO pV looseE (XL pV readE) kH.says PySem.Challenge.rw_qz0021_01.row.toRowW d kwd fun f vs => PySem.call f vs) : PySem.Challenge.rw_qz0021_01.Holds :=
  holds_law wellS fun said => holds_open (q := pV) (loose := looseE) (Xt := fun s => xlAt pV readE s && recOk PySem.Challenge.rw_qz0021_01.row.toRowW.records s) (XP := XL pV readE) (Yf := kH.obs) (Ya := kH.val) (YP := kH.says) (N := nat_lit 10374)
    leftO kH.of kH.keeps (fun s e => xl_of s (Bool.and_eq_true_iff.mp e).1) XL.keeps hdef hp hk (fun s e => recFacts_of (Bool.and_eq_true_iff.mp e).2) (by kernel_rfl) said (by kernel_rfl) ⟨rfl, rfl, rfl, rfl, rfl, by decide +kernel⟩ witS hc

abbrev It := Sum Str (Sum Int (List Int))

section
variable {prog : Program} {w : World} {A : Around} {E : Value → Shared → Prop} {s : Shared}

def ItIs (prog : Program) (w : World) (h : Heap) : It → Value → Prop
  | .inl x, v => ∃ t, v = .str x t
  | .inr (.inl i), v => ∃ t, v = .int i t
  | .inr (.inr l), v => ∃ b, v = .ref b ∧ IsTupleKey (intKind prog w) h l b

def itHash (prog : Program) (w : World) : It → Int
  | .inl x => hashStr w x
  | .inr (.inl i) => hashInt i
  | .inr (.inr l) => tupleKeyHash (intKind prog w) l

def itDraws : It → Nat
  | .inl _ => 1
  | .inr (.inl _) => 1
  | .inr (.inr l) => l.length + 1

def itKind : It → Nat
  | .inl _ => 0
  | .inr (.inl _) => 1
  | .inr (.inr _) => 2

def Like : List It → List It → Prop
  | x :: xs, y :: ys => itKind x = itKind y ∧ (x = y → Like xs ys)
  | _, _ => True

inductive ItsAre (prog : Program) (w : World) (h : Heap) : List It → List Value → Prop
  | nil : ItsAre prog w h [] []
  | cons {k : It} {v : Value} {ks : List It} {vs : List Value} : ItIs prog w h k v → ItsAre prog w h ks vs → ItsAre prog w h (k :: ks) (v :: vs)

theorem ItIs.inj {h : Heap} {x y : It} {v : Value} (hx : ItIs prog w h x v) (hy : ItIs prog w h y v) : x = y := by
  rcases x with x | x | x <;> rcases y with y | y | y <;> obtain ⟨a, ha⟩ := hx <;> obtain ⟨b, hb⟩ := hy
  all_goals first | subst ha | (obtain ⟨ha, hk⟩ := ha; subst ha)
  all_goals first | (injection hb with h1 h2; subst h1; rfl) | (obtain ⟨hb, hk'⟩ := hb; first | (injection hb with h1; subst h1; rw [hk.inj hk']) | cases hb) | cases hb

theorem ItsAre.inj {h : Heap} {x y : List It} {vs : List Value} (hx : ItsAre prog w h x vs) (hy : ItsAre prog w h y vs) : x = y := by
  induction hx generalizing y with
  | nil => cases hy; rfl
  | cons h1 _ ih =>
    cases hy with
    | cons h2 t2 => rw [h1.inj h2, ih t2]

theorem ItIs.keeps {h h' : Heap} {k : It} {v : Value} {d : Addr} {o : Obj} {es ep} (x : ItIs prog w h k v) (ho : h.get? d = some o) (hd : o.data = .dict es ep) (hs : Heap.SameBut d h h') : ItIs prog w h' k v := by
  rcases k with k | k | k
  · exact x
  · exact x
  · obtain ⟨b, hb, hk⟩ := x
    exact ⟨b, hb, hk.keeps ho hd hs⟩

theorem ItsAre.keeps {h h' : Heap} {ks : List It} {vs : List Value} {d : Addr} {o : Obj} {es ep} (x : ItsAre prog w h ks vs) (ho : h.get? d = some o) (hd : o.data = .dict es ep) (hs : Heap.SameBut d h h') : ItsAre prog w h' ks vs := by
  induction x with
  | nil => exact .nil
  | cons h1 _ ih => exact .cons (h1.keeps ho hd hs) ih

def IsItTuple (prog : Program) (w : World) (h : Heap) (ks : List It) (a : Addr) : Prop := ∃ o items n, h.get? a = some o ∧ o.cls = .type "tuple" ∧ o.data = .seq items n ∧ ItsAre prog w h ks items.toList

theorem IsItTuple.typeIs {ks : List It} {a : Addr} (x : IsItTuple prog w s.heap ks a) : s.TypeIs (.ref a) "tuple" := let ⟨o, _, _, ho, hc, _⟩ := x; ⟨o, ho, hc⟩

theorem IsItTuple.inj {h : Heap} {a : Addr} {x y : List It} (hx : IsItTuple prog w h x a) (hy : IsItTuple prog w h y a) : x = y := by
  obtain ⟨o, items, n, ho, _, hd, hi⟩ := hx
  obtain ⟨o', items', n', ho', _, hd', hi'⟩ := hy
  obtain rfl : o = o' := Option.some.inj (ho.symm.trans ho')
  rw [hd] at hd'
  injection hd' with h1 _
  subst h1
  exact hi.inj hi'

theorem IsItTuple.keeps {h h' : Heap} {ks : List It} {a d : Addr} {o : Obj} {es ep} (x : IsItTuple prog w h ks a) (ho : h.get? d = some o) (hd : o.data = .dict es ep) (hs : Heap.SameBut d h h') : IsItTuple prog w h' ks a := by
  obtain ⟨o', items, n, ho', hc, hd', hi⟩ := x
  have hne : a ≠ d := by
    rintro rfl
    obtain rfl : o' = o := Option.some.inj (ho'.symm.trans ho)
    rw [hd] at hd'; exact nomatch hd'
  exact ⟨o', items, n, (hs.2 a hne).trans ho', hc, hd', hi.keeps ho hd hs⟩

theorem pyHash_it {k : It} {v : Value} {Q : Int → Shared → Prop} (hu : A.units < cLine) (hk : ItIs prog w s.heap k v) (h : Q (itHash prog w k) { s with toks := s.toks + itDraws k }) :
    wpAny (model prog w) A (pyHash v) Q E s := by
  rcases k with k | k | k
  · obtain ⟨t, rfl⟩ := hk
    exact wpAny_pyHash_str h
  · obtain ⟨t, rfl⟩ := hk
    exact wpAny_pyHash_int h
  · obtain ⟨b, rfl, hk⟩ := hk
    exact wpAny_pyHash_tuple hu hk h

theorem eqBool_it {x y : It} {u v : Value} {Q : Bool → Shared → Prop} (hu : A.units < cLine) (hx : ItIs prog w s.heap x u) (hy : ItIs prog w s.heap y v) (hk : itKind x = itKind y) (h : Q (decide (x = y)) s) :
    wpAny (model prog w) A (eqBool u v) Q E s := by
  rcases x with x | x | x <;> rcases y with y | y | y <;> first | (simp [itKind] at hk; done) | skip
  · obtain ⟨t, rfl⟩ := hx
    obtain ⟨t', rfl⟩ := hy
    refine wpAny_eqBool_str ?_
    simpa using h
  · obtain ⟨t, rfl⟩ := hx
    obtain ⟨t', rfl⟩ := hy
    refine wpAny_eqBool_int ?_
    have e : (x == y) = decide ((Sum.inr (Sum.inl x) : It) = .inr (.inl y)) := by
      by_cases q : x = y
      · subst q; simp
      · simp [q]
    rw [e]; exact h
  · obtain ⟨b, rfl, hx⟩ := hx
    obtain ⟨b', rfl, hy⟩ := hy
    refine wpAny_eqBool_tuple hu hx hy ?_
    simpa using h

theorem quiet_ints {n : Nat} {ks : List Int} {a : Addr} {Q : Bool → Shared → Prop} (hk : IsTupleKey (intKind prog w) s.heap ks a) (h : Q true s) : wpAny (model prog w) A (eqIsQuiet (n + 1) (.ref a)) Q E s := by
  have hT := hk.typeIs
  obtain ⟨o, items, n', ho, _, hd, hi⟩ := hk
  unfold eqIsQuiet
  refine wpAny_bind (wpAny_specialOf hT F.slot_tuple_eq.lookup ?_)
  show wpAny _ _ (isInstance (.ref a) (.type "tuple") >>= _) _ _ s
  refine wpAny_bind (wpAny_isInstance hT isSubtype_tuple_tuple ?_)
  simp only [Bool.not_true, Bool.false_eq_true, if_false]
  refine wpAny_bind (wpAny_seqItems ho hd ?_)
  refine wpAny_bind ?_
  show wpAny _ _ (forIn items _ _) _ _ s
  rw [← Array.forIn_toList]
  refine wpAny_forIn_list _ (fun rest r s' => r.1 = none ∧ s' = s ∧ ∀ v ∈ rest, carriedByValue v = true) _ ?_ ?_ _ _ ⟨rfl, rfl, hi.byValue⟩
  · rintro v rest r s' ⟨_, rfl, hall⟩
    rw [eqIsQuiet_byValue _ (hall v List.mem_cons_self)]
    refine wpAny_bind (wpAny_pure ?_)
    simp only [Bool.not_true, Bool.false_eq_true, if_false]
    exact wpAny_pure ⟨rfl, rfl, fun u hu' => hall u (List.mem_cons_of_mem _ hu')⟩
  · rintro ⟨r1, r2⟩ s' ⟨hr, rfl, _⟩
    simp only at hr
    subst hr
    exact wpAny_pure h

theorem quiet_it {n : Nat} {k : It} {v : Value} {Q : Bool → Shared → Prop} (hk : ItIs prog w s.heap k v) (h : Q true s) : wpAny (model prog w) A (eqIsQuiet (n + 1) v) Q E s := by
  rcases k with k | k | k
  · obtain ⟨t, rfl⟩ := hk
    rw [eqIsQuiet_byValue _ rfl]
    exact wpAny_pure h
  · obtain ⟨t, rfl⟩ := hk
    rw [eqIsQuiet_byValue _ rfl]
    exact wpAny_pure h
  · obtain ⟨b, rfl, hk⟩ := hk
    exact quiet_ints hk h

theorem quiet_its {ks : List It} {a : Addr} {Q : Bool → Shared → Prop} (hk : IsItTuple prog w s.heap ks a) (h : Q true s) : wpAny (model prog w) A (eqIsQuiet 8 (.ref a)) Q E s := by
  have hT := hk.typeIs
  obtain ⟨o, items, n', ho, _, hd, hi⟩ := hk
  unfold eqIsQuiet
  refine wpAny_bind (wpAny_specialOf hT F.slot_tuple_eq.lookup ?_)
  show wpAny _ _ (isInstance (.ref a) (.type "tuple") >>= _) _ _ s
  refine wpAny_bind (wpAny_isInstance hT isSubtype_tuple_tuple ?_)
  simp only [Bool.not_true, Bool.false_eq_true, if_false]
  refine wpAny_bind (wpAny_seqItems ho hd ?_)
  refine wpAny_bind ?_
  show wpAny _ _ (forIn items _ _) _ _ s
  rw [← Array.forIn_toList]
  refine wpAny_forIn_list _ (fun rest r s' => r.1 = none ∧ s' = s ∧ ∃ l, ItsAre prog w s.heap l rest) _ ?_ ?_ _ _ ⟨rfl, rfl, ks, hi⟩
  · rintro v rest r s' ⟨_, rfl, l, hl⟩
    cases hl with
    | cons h1 hl' =>
      refine wpAny_bind (quiet_it (n := 6) h1 ?_)
      simp only [Bool.not_true, Bool.false_eq_true, if_false]
      exact wpAny_pure ⟨rfl, rfl, _, hl'⟩
  · rintro ⟨r1, r2⟩ s' ⟨hr, rfl, _⟩
    simp only at hr
    subst hr
    exact wpAny_pure h

def itsHash (prog : Program) (w : World) (ks : List It) : Int := reduceHash (Builtin.Tuple.tupleHashOf (ks.map (itHash prog w)))
def itsDraws (ks : List It) : Nat := (ks.map itDraws).sum + 1

theorem pyHash_its {ks : List It} {a : Addr} {Q : Int → Shared → Prop} (hu : A.units + 2 < cLine) (hk : IsItTuple prog w s.heap ks a) (h : Q (itsHash prog w ks) { s with toks := s.toks + itsDraws ks }) :
    wpAny (model prog w) A (pyHash (.ref a)) Q E s := by
  have hT := hk.typeIs
  obtain ⟨o, items, n, ho, _, hd, hi⟩ := hk
  unfold pyHash pyHashByItsType
  refine wpAny_bind (wpAny_cRoomFor_or (.inr (by omega)) ?_)
  refine wpAny_bind (wpAny_specialOf hT F.slot_tuple_hash.lookup ?_)
  show wpAny _ _ (if (some (Value.builtin "tuple.__hash__") == some Value.none) = true then _ else _) Q E s
  rw [if_neg (by rw [beq_builtin_none]; exact Bool.false_ne_true)]
  refine wpAny_bind (wpAny_specialOf hT F.slot_tuple_hash.lookup ?_)
  show wpAny _ _ (callSpecialIfBoundUnlessNone? (.ref a) "__hash__" _ >>= _) Q E s
  refine wpAny_bind (wpAny_callSpecialIfBoundUnlessNone?_slot hT F.slot_tuple_hash (wpAny_call_entry F.slot_tuple_hash hT F.entry_tuple_hash ?_ (F.args_tuple_hash_1 _)))
  show wpAny _ _ (Builtin.Tuple.tupleItemsOf (.ref a) >>= _) _ _ s
  refine wpAny_bind (wpAny_tupleItemsOf ho hd ?_)
  refine wpAny_bind ?_
  rw [← Array.forIn_toList]
  refine wpAny_forIn_list _
    (fun rest (b : Array Int) s' => ∃ done left, ks = done ++ left ∧ ItsAre prog w s.heap left rest ∧ b.toList = done.map (itHash prog w) ∧ s' = { s with toks := s.toks + (done.map itDraws).sum })
    _ ?_ ?_ _ _ ⟨[], ks, rfl, hi, rfl, rfl⟩
  · rintro x rest b s' ⟨done, left, rfl, hl, hb, rfl⟩
    cases hl with
    | @cons k _ ks' _ h1 hl' =>
      refine wpAny_bind (pyHash_it (s := { s with toks := s.toks + (done.map itDraws).sum }) (by show A.units + 1 < cLine; omega) h1 ?_)
      first
        | exact wpAny_pure ⟨done ++ [k], ks', by simp, hl', by simp [hb], by simp [Nat.add_assoc]⟩
        | exact wpAny_bind (wpAny_pure (wpAny_pure ⟨done ++ [k], ks', by simp, hl', by simp [hb], by simp [Nat.add_assoc]⟩))
  · rintro b s' ⟨done, left, rfl, hl, hb, rfl⟩
    cases hl
    rw [List.append_nil] at h
    show wpAny _ _ (retInt (Builtin.Tuple.tupleHashOf b.toList)) _ _ _
    rw [hb]
    refine wpAny_ret_mkInt ?_
    show wpAny _ _ (if (decide (-(2 : Int) ^ 63 ≤ Builtin.Tuple.tupleHashOf (done.map (itHash prog w))) && decide (Builtin.Tuple.tupleHashOf (done.map (itHash prog w)) < 2 ^ 63)) = true then _ else _) Q E _
    unfold itsHash reduceHash at h
    by_cases hr : (decide (-(2 : Int) ^ 63 ≤ Builtin.Tuple.tupleHashOf (done.map (itHash prog w))) && decide (Builtin.Tuple.tupleHashOf (done.map (itHash prog w)) < 2 ^ 63)) = true
    · rw [if_pos hr]
      rw [if_pos hr] at h
      exact wpAny_pure (by simpa [itsDraws, Nat.add_assoc] using h)
    · rw [if_neg hr]
      rw [if_neg hr] at h
      exact wpAny_bind (wpAny_rule (wpAny_pure (by simpa [itsDraws, Nat.add_assoc] using h)))

theorem its_eq_tree {x y : List It} {a b : Addr} {P : Fin → Shared → Prop} (hu : A.units < cLine) (hx : IsItTuple prog w s.heap x a) (hy : IsItTuple prog w s.heap y b) (hl : Like x y) (hlen : x.length = y.length) (h : P (.done (.ret (.bool (decide (x = y))))) s) :
    wpAny (model prog w) A (Builtin.«tuple.__eq__» ⟨[.ref a, .ref b], []⟩) P E s := by
  have hTb := hy.typeIs
  obtain ⟨oa, xs, na, hoa, _, hda, hia⟩ := hx
  obtain ⟨ob, ys, nb, hob, _, hdb, hib⟩ := hy
  have len : ∀ {l : List It} {vs : List Value}, ItsAre prog w s.heap l vs → l.length = vs.length := by
    intro l vs q
    induction q with
    | nil => rfl
    | cons _ _ ih => simp [ih]
  have hsz : (xs.size == ys.size) = true := by
    have h1 := len hia
    have h2 := len hib
    simp only [Array.length_toList] at h1 h2
    simp [← h1, ← h2, hlen]
  show wpAny _ _ (isInstance (.ref b) (.type "tuple") >>= _) _ _ s
  refine wpAny_bind (wpAny_isInstance hTb isSubtype_tuple_tuple ?_)
  simp only [Bool.not_true, Bool.false_eq_true, if_false]
  refine wpAny_bind (wpAny_tupleItemsOf hoa hda ?_)
  refine wpAny_bind (wpAny_tupleItemsOf hob hdb ?_)
  refine wpAny_bind ?_
  refine wpAny_forIn_list _
    (fun rest r s' => r.1 = none ∧ s' = s ∧ ∃ x' y' xs' ys', rest = List.zip xs' ys' ∧ ItsAre prog w s.heap x' xs' ∧ ItsAre prog w s.heap y' ys' ∧ decide (x' = y') = decide (x = y) ∧ Like x' y' ∧ x'.length = y'.length)
    _ ?_ ?_ _ _ ⟨rfl, rfl, x, y, xs.toList, ys.toList, rfl, hia, hib, rfl, hl, hlen⟩
  · rintro ⟨u, v⟩ rest r s' ⟨hr, rfl, x', y', xs', ys', hz, hx', hy', hdec, hlk, hln⟩
    cases hx' with
    | nil => simp at hz
    | @cons k1 u' x'' xs'' h1 hx'' =>
      cases hy' with
      | nil => simp at hz
      | @cons k2 v' y'' ys'' h2 hy'' =>
        simp only [List.zip_cons_cons, List.cons.injEq, Prod.mk.injEq] at hz
        obtain ⟨⟨rfl, rfl⟩, rfl⟩ := hz
        refine wpAny_bind (eqBool_it hu h1 h2 hlk.1 ?_)
        by_cases hk : k1 = k2
        · subst hk
          rw [decide_eq_true rfl]
          simp only [Bool.not_true, Bool.false_eq_true, if_false]
          refine wpAny_pure ⟨rfl, rfl, x'', y'', xs'', ys'', rfl, hx'', hy'', ?_, hlk.2 rfl, by simpa using hln⟩
          rw [← hdec]
          by_cases hxy : x'' = y''
          · simp [hxy]
          · simp [hxy]
        · rw [decide_eq_false hk]
          simp only [Bool.not_false, if_true]
          have hf : decide (x = y) = false := by rw [← hdec]; simp [hk]
          rw [hf] at h
          exact wpAny_bind (wpAny_pure (wpAny_pure (wpAny_pure h)))
  · rintro ⟨r1, r2⟩ s' ⟨hr, rfl, x', y', xs', ys', hz, hx', hy', hdec, _, hln⟩
    simp only at hr
    subst hr
    refine wpAny_pure ?_
    have hfin : (xs.size == ys.size) = decide (x = y) := by
      rw [hsz, ← hdec]
      cases hx' with
      | nil =>
        cases hy' with
        | nil => simp
        | cons _ _ => simp at hln
      | cons _ _ =>
        cases hy' with
        | nil => simp at hln
        | cons _ _ => simp at hz
    show P (.done (.ret (.bool (xs.size == ys.size)))) s'
    rw [hfin]; exact h

theorem eqBool_its {x y : List It} {a b : Addr} {Q : Bool → Shared → Prop} (hu : A.units + 2 < cLine) (hx : IsItTuple prog w s.heap x a) (hy : IsItTuple prog w s.heap y b) (hl : Like x y) (hlen : x.length = y.length) (h : Q (decide (x = y)) s) :
    wpAny (model prog w) A (eqBool (.ref a) (.ref b)) Q E s := by
  unfold eqBool
  try with_reducible refine wpAny_holding ?_
  show wpAny _ _ (if (Value.ref a == Value.ref b) = true then _ else _) Q E s
  by_cases hab : (Value.ref a == Value.ref b) = true
  · rw [if_pos hab]
    have e : a = b := by have := eq_of_beq hab; injection this
    subst e
    obtain rfl := hx.inj hy
    exact wpAny_bind (wpAny_rule (wpAny_pure (by simpa using h)))
  · rw [if_neg hab]
    exact wpAny_bind (wpAny_richCompare_same_room (op := .Eq) hx.typeIs hy.typeIs F.slot_tuple_eq
      (wpAny_call_entry F.slot_tuple_eq hx.typeIs F.entry_tuple_eq (its_eq_tree (by show A.units + 1 < cLine; omega) hx hy hl hlen ⟨_, rfl, (fun e => nomatch e), wpAny_truthy_bool h⟩) (F.args_tuple_eq_2 _ _)) (by omega))
end

abbrev TKey := Str × List Int × Int × Sum Int (Int × Int)
def datIt : Sum Int (Int × Int) → It
  | .inl i => .inr (.inl i)
  | .inr (i, j) => .inr (.inr [i, j])
def keyIts (k : TKey) : List It := [.inl k.1, .inr (.inr k.2.1), .inr (.inl k.2.2.1), datIt k.2.2.2]
def keyOk (k : TKey) : Prop := k.2.2.2.isRight = (k.1 == Str.ofString "extract")

theorem datIt_inj {x y : Sum Int (Int × Int)} (h : datIt x = datIt y) : x = y := by
  rcases x with x | ⟨x, x'⟩ <;> rcases y with y | ⟨y, y'⟩ <;> simp [datIt] at h
  · rw [h]
  · rw [h.1, h.2]
theorem keyIts_inj {x y : TKey} (h : keyIts x = keyIts y) : x = y := by
  obtain ⟨a, b, c, d⟩ := x
  obtain ⟨a', b', c', d'⟩ := y
  simp only [keyIts, List.cons.injEq, Sum.inl.injEq, Sum.inr.injEq, and_true] at h
  obtain ⟨rfl, rfl, rfl, hd⟩ := h
  rw [datIt_inj hd]
theorem keyLike {x y : TKey} (hx : keyOk x) (hy : keyOk y) : Like (keyIts x) (keyIts y) := by
  obtain ⟨a, b, c, d⟩ := x
  obtain ⟨a', b', c', d'⟩ := y
  simp only [keyIts, Like]
  refine ⟨rfl, fun e => ⟨rfl, fun _ => ⟨rfl, fun _ => ⟨?_, fun _ => trivial⟩⟩⟩⟩
  simp only [Sum.inl.injEq] at e
  subst e
  simp only [keyOk] at hx hy
  rw [← hy] at hx
  rcases d with d | ⟨d, d2⟩ <;> rcases d' with d' | ⟨d', d2'⟩ <;> first | rfl | (simp at hx)

def termKind (prog : Program) (w : World) : HeapKind prog w TKey where
  is := fun h k a => keyOk k ∧ IsItTuple prog w h (keyIts k) a
  hash := fun k => itsHash prog w (keyIts k)
  draws := fun k => itsDraws (keyIts k)
  room := fun A => A.units + 2 < cLine
  inj := fun hx hy => keyIts_inj (hx.2.inj hy.2)
  keeps := fun x ho hd hs => ⟨x.1, x.2.keeps ho hd hs⟩
  pyHash := fun hu hk h => pyHash_its hu hk.2 h
  eqBool := fun {_ _ _ x y _ _ _} hu hx hy h => eqBool_its hu hx.2 hy.2 (keyLike hx.1 hy.1) rfl (by
    have e : decide (keyIts x = keyIts y) = decide (x = y) := by
      by_cases q : x = y
      · subst q; simp
      · rw [decide_eq_false q, decide_eq_false fun e => q (keyIts_inj e)]
    rw [e]; exact h)
  quiet := fun hk h => quiet_its hk.2 h

abbrev Led := List (Addr × Obj)

def Spec (w : World) (f : Addr) (sz : Nat) (news : Led) (vs : List Value) (R : Value → Led → Prop) : Prop :=
  ∀ (mean : ExcName → Option Value) (mg mb : Str → Option Value) (dp un : Nat) (gd : Option (List Code)) (cn : Str) (cs : Scope) (a : Addr) (ccd : Value) (cl : List (Str × Addr)) (outer : List Env) (A₀ : Around) (base h₀ : Heap) (L : Addr) (m : Str → Option Value) (s : Shared)
    (Q E : Value → Shared → Prop),
    Below A₀ base outer h₀ → Fr h₀ L s.heap m → (kF w.params).In h₀ → News h₀ L s.heap news → Top pV (looseW pV looseE) mean mg mb h₀ → cs.kind = .function → dp + sz < recursionLimit → un + 8 * sz < cLine →
    (∀ r news' h' tk', Fr h₀ L h' m → News h₀ L h' news' → R r news' → Q r { s with heap := h', toks := tk' }) →
    wpAny (model PySem.Challenge.rw_qz0021_01.row.prog w) (ktrTop dp un gd cn cs L a ccd cl outer) (call (.ref f) vs) Q E s


theorem room1 {dp a b : Nat} (h : dp + a < recursionLimit) (e : Nat.ble (1 + b) a = true) : dp + 1 + b < recursionLimit := by have := Nat.le_of_ble_eq_true e; omega
theorem room0 {dp a : Nat} (h : dp + a < recursionLimit) (e : Nat.ble 1 a = true) : dp + 1 < recursionLimit := by have := Nat.le_of_ble_eq_true e; omega
theorem roomE {dp a : Nat} (h : dp + a < recursionLimit) : dp < recursionLimit := Nat.lt_of_le_of_lt (Nat.le_add_right dp a) h
theorem unitE {un a b : Nat} (h : un + a < cLine) (e : Nat.ble b a = true) : un + b < cLine := Nat.lt_of_le_of_lt (Nat.add_le_add_left (Nat.le_of_ble_eq_true e) un) h
theorem unit1 {un a b : Nat} (h : un + a < cLine) (e : Nat.ble (3 + b) a = true) : un + 3 + b < cLine := by have := Nat.le_of_ble_eq_true e; omega
theorem ne_all {d a : Nat} {o : Obj} {l : Led} (h : ∀ p ∈ l, @LT.lt Nat _ p.1 d) (m : (a, o) ∈ l) : d ≠ a := Nat.ne_of_gt (h _ m)
theorem rowsBase1 : True := by
  k_with "rm" => k_dflt (first | exact room1 (by assumption) (by decide) | exact room0 (by assumption) (by decide) | exact roomE (by assumption))
  k_with "ne" => k_dflt (first | exact ne_all (by assumption) (by k_mem) | exact Nat.ne_of_lt (by assumption) | exact Nat.ne_of_gt (by assumption))
  k_with "un" => k_dflt (first | exact unit1 (by assumption) (by decide) | exact unitE (by assumption) (by decide))
  trivial

def IsT (o : Obj) : Prop := o.cls = .type "tuple" ∧ ∃ vs n, o.data = .seq vs n
def less (I : Addr) (T : Led) : Led := T.filter fun p => decide (@Ne Nat p.1 I)
theorem mem_less {I : Addr} {T : Led} {p : Addr × Obj} : p ∈ less I T ↔ p ∈ T ∧ @Ne Nat p.1 I := by
  unfold less; rw [List.mem_filter, decide_eq_true_iff]
abbrev upL (D : Addr) (o : Obj) (T : Led) : Led := (D, o) :: less D T
theorem mem_up {D : Addr} {o : Obj} {T : Led} {p : Addr × Obj} (h : p ∈ T) (q : @Ne Nat p.1 D) : p ∈ upL D o T := .tail _ (mem_less.mpr ⟨h, q⟩)
theorem newsUp {h₀ h h' : Heap} {L : Addr} {T : Led} {D : Addr} {o o' : Obj} (N : News h₀ L h T) (hm : (D, o) ∈ T) (hs : Heap.SameBut D h h') (ho : h'.get? D = some o') : News h₀ L h' (upL D o' T) := fun p hp => by
  rcases List.mem_cons.mp hp with rfl | hp
  · exact ⟨ho, (N _ hm).2⟩
  · have q := mem_less.mp hp
    exact ⟨(hs.2 _ q.2).trans (N p q.1).1, (N p q.1).2⟩
theorem newsNe {h₀ h : Heap} {L : Addr} {T : Led} (N : News h₀ L h T) {a d : Addr} {o o' : Obj} (hm : (a, o) ∈ T) (hd : (d, o') ∈ T) (hc : o.cls ≠ o'.cls) : @Ne Nat a d := fun e => by
  have e' : a = d := e
  subst e'
  exact hc (congrArg Obj.cls (Option.some.inj ((N.get hm).symm.trans (N.get hd))))
abbrev tupO (vs : Array Value) (n : Nat) : Obj := { cls := .type "tuple", data := .seq vs n }

section
variable (w : World)
def IntTupIn (news : Led) (l : List Int) (b : Addr) : Prop := ∃ vs n, (b, tupO vs n) ∈ news ∧ ItemsAre (intKind PySem.Challenge.rw_qz0021_01.row.prog w) l vs.toList
def DtIn (news : Led) : Sum Int (Int × Int) → Value → Prop
  | .inl i, v => ∃ t, v = .int i t
  | .inr (i, j), v => ∃ b, v = .ref b ∧ IntTupIn w news [i, j] b
def KeyIn (news : Led) (k : TKey) (a : Addr) : Prop :=
  keyOk k ∧ ∃ n t1 b t2 v, (a, tupO #[.str k.1 t1, .ref b, .int k.2.2.1 t2, v] n) ∈ news ∧ IntTupIn w news k.2.1 b ∧ DtIn w news k.2.2.2 v
def NumObj (o : Obj) (xs : List (TKey × Addr × Value)) : Prop :=
  o.ExactDict ∧ (∃ es ep, o.data = .dict es ep ∧ es.toList = xs.map (entryOfKey (termKind PySem.Challenge.rw_qz0021_01.row.prog w))) ∧ (xs.map (·.1)).Nodup
end

section
variable {w : World} {h₀ h : Heap} {L a b d : Addr} {news news' : Led}
theorem IntTupIn.monoT {l : List Int} (x : IntTupIn w news l b) (hs : ∀ p ∈ news, IsT p.2 → p ∈ news') : IntTupIn w news' l b :=
  x.imp fun _ q => q.imp fun _ q => ⟨hs _ q.1 ⟨rfl, _, _, rfl⟩, q.2⟩
theorem DtIn.monoT {x : Sum Int (Int × Int)} {v : Value} (q : DtIn w news x v) (hs : ∀ p ∈ news, IsT p.2 → p ∈ news') : DtIn w news' x v := by
  cases x with
  | inl i => exact q
  | inr i => exact q.imp fun _ q => ⟨q.1, q.2.monoT hs⟩
theorem KeyIn.monoT {k : TKey} (x : KeyIn w news k a) (hs : ∀ p ∈ news, IsT p.2 → p ∈ news') : KeyIn w news' k a :=
  ⟨x.1, x.2.imp fun _ q => q.imp fun _ q => q.imp fun _ q => q.imp fun _ q => q.imp fun _ q => ⟨hs _ q.1 ⟨rfl, _, _, rfl⟩, q.2.1.monoT hs, q.2.2.monoT hs⟩⟩
theorem IntTupIn.mono {l : List Int} (x : IntTupIn w news l b) (hs : ∀ p ∈ news, p.2.cls = .type "tuple" → p ∈ news') : IntTupIn w news' l b := x.monoT fun p hp q => hs p hp q.1
theorem DtIn.mono {x : Sum Int (Int × Int)} {v : Value} (q : DtIn w news x v) (hs : ∀ p ∈ news, p.2.cls = .type "tuple" → p ∈ news') : DtIn w news' x v := q.monoT fun p hp q => hs p hp q.1
theorem KeyIn.mono {k : TKey} (x : KeyIn w news k a) (hs : ∀ p ∈ news, p.2.cls = .type "tuple" → p ∈ news') : KeyIn w news' k a := x.monoT fun p hp q => hs p hp q.1
theorem IntTupIn.at {l : List Int} (x : IntTupIn w news l b) (N : News h₀ L h news) : IsTupleKey (intKind PySem.Challenge.rw_qz0021_01.row.prog w) h l b :=
  let ⟨vs, n, hm, hi⟩ := x; ⟨_, vs, n, N.get hm, rfl, rfl, hi⟩
theorem KeyIn.at {k : TKey} (x : KeyIn w news k a) (N : News h₀ L h news) : (termKind PySem.Challenge.rw_qz0021_01.row.prog w).is h k a := by
  obtain ⟨ok, n, t1, b, t2, v, hm, hi, hd⟩ := x
  refine ⟨ok, _, _, n, N.get hm, rfl, rfl, ?_⟩
  obtain ⟨k1, k2, k3, k4⟩ := k
  refine .cons ⟨t1, rfl⟩ (.cons ⟨b, rfl, hi.at N⟩ (.cons ⟨t2, rfl⟩ (.cons ?_ .nil)))
  rcases k4 with i | ⟨i, j⟩
  · exact hd
  · obtain ⟨c, hc, q⟩ := hd
    exact ⟨c, hc, q.at N⟩
theorem NumObj.at {o : Obj} {xs : List (TKey × Addr × Value)} (x : NumObj w o xs) (N : News h₀ L h news) (hm : (d, o) ∈ news) (hk : ∀ x ∈ xs, KeyIn w news x.1 x.2.1) : h.DictOfH (termKind PySem.Challenge.rw_qz0021_01.row.prog w) d xs :=
  let ⟨hc, ⟨es, ep, hd, he⟩, hn⟩ := x; ⟨o, es, ep, N.get hm, hc, hd, he, fun y hy => (hk y hy).at N, hn⟩
theorem NumObj.of {xs : List (TKey × Addr × Value)} (x : h.DictOfH (termKind PySem.Challenge.rw_qz0021_01.row.prog w) d xs) : ∃ o, h.get? d = some o ∧ NumObj w o xs :=
  let ⟨o, es, ep, ho, hc, hd, he, _, hn⟩ := x; ⟨o, ho, hc, ⟨es, ep, hd, he⟩, hn⟩
end

section
variable {w : World} {A : Around} {E : Value → Shared → Prop} {s : Shared} {h₀ : Heap} {L a d : Addr} {m : Str → Option Value} {news : Led} {g : Obj → Led} {o : Obj} {k : TKey} {xs : List (TKey × Addr × Value)}

theorem get_N {dflt : Value} {Q : Value → Shared → Prop} (N : News h₀ L s.heap news) (hm : (d, o) ∈ news) (ho : NumObj w o xs) (hk : KeyIn w news k a) (hxs : ∀ x ∈ xs, KeyIn w news x.1 x.2.1) (hu : A.units + 8 < cLine) (hs : (d == sysModules) = false)
    (h : Q (((atKey xs k).map (·.2)).getD dflt) { s with toks := s.toks + itsDraws (keyIts k) }) : wpAny (model PySem.Challenge.rw_qz0021_01.row.prog w) A (call (.builtin "dict.get") [.ref d, .ref a, dflt]) Q E s :=
  have hD := ho.at N hm hxs
  call_meetsIn F.slot_dict_get hD.typeIs F.entry_dict_get (F.args_dict_get_3 _ _ _) (meetsH_dict_get_default (termKind PySem.Challenge.rw_qz0021_01.row.prog w) d a hs dflt) ⟨by show A.units + 1 + 2 < cLine; omega, k, xs, hk.at N, hD, h⟩

theorem set_N {v : Value} {Q : Unit → Shared → Prop} (F : Fr h₀ L s.heap m) (N : News h₀ L s.heap news) (hm : (d, o) ∈ news) (ho : NumObj w o xs) (hk : KeyIn w news k a) (hxs : ∀ x ∈ xs, KeyIn w news x.1 x.2.1) (hu : A.units + 8 < cLine) (hsz : xs.length ≤ sizeLine)
    (h : ∀ h' o', Fr h₀ L h' m → News h₀ L h' (upL d o' news) → NumObj w o' (storedH xs k a v) → Q () { s with heap := h', toks := s.toks + itsDraws (keyIts k) }) :
    wpAny (model PySem.Challenge.rw_qz0021_01.row.prog w) A (setItem (.ref d) (.ref a) v) Q E s := by
  refine wpAny_setItem_heap (Nat.lt_of_le_of_lt (Nat.add_le_add_left (by decide : 3 ≤ 8) _) hu) (hk.at N) (ho.at N hm hxs) (fun h' hD hs => ?_) hsz
  obtain ⟨o', ho', hn⟩ := NumObj.of hD
  exact h h' o' (F.change hs (N _ hm).2.1 (N _ hm).2.2) (newsUp N hm hs ho') hn
end

abbrev PP : Program := PySem.Challenge.rw_qz0021_01.row.prog
def isI (i : Int) : Value → Prop := fun u => ∃ t, u = .int i t
def isR (a : Addr) : Value → Prop := fun u => u = .ref a
def isS (x : Str) : Value → Prop := fun u => ∃ t, u = .str x t
def isB (b : Bool) : Value → Prop := fun u => u = .bool b
abbrev FL := List (Str × (Value → Prop))
def FOk (l : FL) (m : Str → Option Value) : Prop := ∀ x V, l.lookup x = some V → ∃ v, m x = some v ∧ V v
theorem FOk.set {l : FL} {m : Str → Option Value} {x : Str} {V : Value → Prop} {v : Value} (h : FOk l m) (hv : V v) : FOk ((x, V) :: l) (fun y => if y = x then some v else m y) := fun y U hy => by
  rw [List.lookup_cons] at hy
  by_cases q : y = x
  · subst q
    rw [beq_self_eq_true] at hy
    obtain rfl : V = U := Option.some.inj hy
    exact ⟨v, if_pos rfl, hv⟩
  · rw [beq_eq_false_iff_ne.mpr q] at hy
    obtain ⟨u, hu, h2⟩ := h y U hy
    exact ⟨u, (if_neg q).trans hu, h2⟩
theorem fok_nil {m : Str → Option Value} : FOk [] m := fun x V h => nomatch h
theorem fok_cons {x : Str} {V : Value → Prop} {v : Value} {l : FL} {b : List (Str × Value)} (hv : V v) (h : FOk l (fun y => b.lookup y)) : FOk ((x, V) :: l) (fun y => ((x, v) :: b).lookup y) := fun y U hy => by
  show ∃ v', List.lookup y ((x, v) :: b) = some v' ∧ U v'
  rw [List.lookup_cons] at hy ⊢
  by_cases q : (y == x) = true
  · rw [q] at hy ⊢
    obtain rfl : V = U := Option.some.inj hy
    exact ⟨v, rfl, hv⟩
  · rw [Bool.not_eq_true] at q
    rw [q] at hy ⊢
    exact h y U hy
theorem FOk.one {l : FL} {x : Str} {V : Value → Prop} {m : Str → Option Value} (h : FOk ((x, V) :: l) m) : FOk [(x, V)] m := fun y U hy => h y U (by
  rw [List.lookup_cons] at hy ⊢
  cases q : (y == x) with
  | true => rw [q] at hy; exact hy
  | false => rw [q] at hy; cases hy)
def Alls : List (Value → Prop) → List Value → Prop
  | [], [] => True
  | V :: Vs, v :: vs => V v ∧ Alls Vs vs
  | _, _ => False
theorem alls_nil {vs : List Value} (h : Alls [] vs) : vs = [] := by
  cases vs with
  | nil => rfl
  | cons _ _ => exact h.elim
theorem alls_cons {V : Value → Prop} {Vs : List (Value → Prop)} {vs : List Value} (h : Alls (V :: Vs) vs) : ∃ u us, vs = u :: us ∧ V u ∧ Alls Vs us := by
  cases vs with
  | nil => exact h.elim
  | cons u us => exact ⟨u, us, rfl, h.1, h.2⟩
theorem alls1 {V1 : Value → Prop} {vs : List Value} (h : Alls [V1] vs) : ∃ u1, vs = [u1] ∧ V1 u1 :=
  let ⟨u, _, e, h1, h2⟩ := alls_cons h
  ⟨u, e.trans (by rw [alls_nil h2]), h1⟩
theorem alls2 {V1 V2 : Value → Prop} {vs : List Value} (h : Alls [V1, V2] vs) : ∃ u1 u2, vs = [u1, u2] ∧ V1 u1 ∧ V2 u2 :=
  let ⟨u, _, e, h1, h2⟩ := alls_cons h
  let ⟨u2, e2, h3⟩ := alls1 h2
  ⟨u, u2, e.trans (by rw [e2]), h1, h3⟩
theorem alls3 {V1 V2 V3 : Value → Prop} {vs : List Value} (h : Alls [V1, V2, V3] vs) : ∃ u1 u2 u3, vs = [u1, u2, u3] ∧ V1 u1 ∧ V2 u2 ∧ V3 u3 :=
  let ⟨u, _, e, h1, h2⟩ := alls_cons h
  let ⟨u2, u3, e2, h3⟩ := alls2 h2
  ⟨u, u2, u3, e.trans (by rw [e2]), h1, h3⟩
theorem alls4 {V1 V2 V3 V4 : Value → Prop} {vs : List Value} (h : Alls [V1, V2, V3, V4] vs) : ∃ u1 u2 u3 u4, vs = [u1, u2, u3, u4] ∧ V1 u1 ∧ V2 u2 ∧ V3 u3 ∧ V4 u4 :=
  let ⟨u, _, e, h1, h2⟩ := alls_cons h
  let ⟨u2, u3, u4, e2, h3⟩ := alls3 h2
  ⟨u, u2, u3, u4, e.trans (by rw [e2]), h1, h3⟩
def ofV : Value → Value → Prop
  | .int i _ => isI i
  | .str x _ => isS x
  | .ref a => isR a
  | v => fun u => u = v
theorem ofV_self (v : Value) : ofV v v := by cases v <;> first | rfl | exact ⟨_, rfl⟩
def lOf (b : List (Str × Value)) : FL := b.map fun p => (p.1, ofV p.2)
theorem fok_of : ∀ b : List (Str × Value), FOk (lOf b) (fun y => b.lookup y)
  | [] => fok_nil
  | p :: b => fok_cons (ofV_self p.2) (fok_of b)
inductive Pt
  | I (i : Int)
  | R (a : Addr)
  | S (x : Str)
  | V (P : Value → Prop)
def Pt.ok : Pt → Value → Prop
  | .I i => isI i
  | .R a => isR a
  | .S x => isS x
  | .V P => P
def PtE : List Pt → (List Value → Prop) → Prop
  | [], P => P []
  | .I i :: r, P => ∀ t, PtE r fun vs => P (.int i t :: vs)
  | .R a :: r, P => PtE r fun vs => P (.ref a :: vs)
  | .S x :: r, P => ∀ t, PtE r fun vs => P (.str x t :: vs)
  | .V A :: r, P => ∀ v, A v → PtE r fun vs => P (v :: vs)
theorem pt_elim : ∀ {ps : List Pt} {P : List Value → Prop} {vs : List Value}, PtE ps P → Alls (ps.map Pt.ok) vs → P vs
  | [], _, [], h, _ => h
  | [], _, _ :: _, _, h => h.elim
  | _ :: _, _, [], _, h => h.elim
  | .I i :: _, P, _ :: _, h, ⟨⟨t, e⟩, q⟩ => by subst e; exact pt_elim (P := fun vs => P (.int i t :: vs)) (h t) q
  | .R a :: _, P, _ :: _, h, ⟨e, q⟩ => by
    have e := Eq.symm e
    subst e
    exact pt_elim (P := fun vs => P (.ref a :: vs)) h q
  | .S x :: _, P, _ :: _, h, ⟨⟨t, e⟩, q⟩ => by subst e; exact pt_elim (P := fun vs => P (.str x t :: vs)) (h t) q
  | .V _ :: _, P, v :: _, h, ⟨e, q⟩ => pt_elim (P := fun vs => P (v :: vs)) (h v e) q
theorem alls_at {V : Value → Prop} : ∀ {Vs : List (Value → Prop)} {vs : List Value}, (∀ W ∈ Vs, ∀ u, W u → V u) → Alls Vs vs → ∀ {i : Nat}, i < Vs.length → ∃ v, vs[i]? = some v ∧ V v
  | [], _, _, _, _, h => absurd h (Nat.not_lt_zero _)
  | _ :: _, [], _, h, _, _ => h.elim
  | _ :: _, v :: _, q, h, 0, _ => ⟨v, rfl, q _ (.head _) v h.1⟩
  | _ :: _, _ :: _, q, h, _ + 1, hi => alls_at (fun W hW => q W (.tail _ hW)) h.2 (Nat.lt_of_succ_lt_succ hi)
noncomputable def bodyOf : Stmt → List Stmt
  | .FunctionDef _ _ b _ _ _ _ _ _ _ => b
  | _ => []
noncomputable def scopeOf : Stmt → Scope
  | .FunctionDef _ _ _ _ _ _ sc _ _ _ => sc
  | _ => default
def unstarred : PySem.Expr → Bool
  | .Starred .. => false
  | _ => true
theorem star_of {e : PySem.Expr} {env : Env} (h : unstarred e = true) (rest : List PySem.Expr) : starEach (e :: rest) env = (false, eval e env) :: starEach rest env := by
  cases e <;> first | rfl | cases h
theorem plain_of {pos : Pos} {env : Env} : ∀ {es : List PySem.Expr}, es.all unstarred = true → (backTo pos (starEach es env)).any (·.1) = false
  | [], _ => rfl
  | e :: es, h => by
    obtain ⟨h1, h2⟩ := Bool.and_eq_true_iff.mp h
    rw [star_of h1]
    show (false || (backTo pos (starEach es env)).any (·.1)) = false
    rw [plain_of h2]; rfl
theorem marks_of {op : CmpOp} {r : PySem.Expr} (h : (op == .In || op == .NotIn) = false) : behindInMarks op r = false := by
  cases r <;> first | rfl | (simp only [behindInMarks, h, Bool.and_false, Bool.false_and])
def Meth0 (eb : PySem.Expr) (nm : Str) (p1 p2 : Pos) (es : List PySem.Expr) (env : Env) : Prop := ∃ pl : Sem Bool, eval (.Call (.Attribute eb nm p1) es [] p2) env = (do
      let ov ← eval eb env
      standAt p1.atName
      let (f, first) ← holding [ov] (getMethod ov nm pl)
      callWith p2 f first (backTo p2 (starEach es env)) [])
structure Fx (w : World) (S : Scope) (z : Nat) where
  mean : ExcName → Option Value
  mg : Str → Option Value
  mb : Str → Option Value
  dp : Nat
  un : Nat
  gd : Option (List Code)
  cn : Str
  L : Addr
  a : Addr
  ccd : Value
  cl : List (Str × Addr)
  outer : List Env
  A₀ : Around
  base : Heap
  g : Heap
  B : Below A₀ base outer g
  X : (kF w.params).In g
  T : Top pV (looseW pV looseE) mean mg mb g
  room : dp + z < recursionLimit
  units : un + 8 * z < cLine
  hk : S.kind = .function
theorem use_spec {w : World} {f : Addr} {sz : Nat} {news : Led} {vs : List Value} {R : Value → Led → Prop} {mean : ExcName → Option Value} {mg mb : Str → Option Value} {dp un : Nat} {gd : Option (List Code)} {cn : Str} {cs : Scope} {a : Addr} {ccd : Value} {cl : List (Str × Addr)} {outer : List Env} {A₀ : Around} {base h₀ : Heap} {L : Addr} {m : Str → Option Value} {s : Shared}
    {Q E : Value → Shared → Prop} (S : Spec w f sz news vs R) (B : Below A₀ base outer h₀) (F : Fr h₀ L s.heap m) (X : (kF w.params).In h₀) (N : News h₀ L s.heap news)
    (T : Top pV (looseW pV looseE) mean mg mb h₀) (hk : cs.kind = .function) (hd : dp + sz < recursionLimit) (hu : un + 8 * sz < cLine)
    (h : ∀ r news' h' tk', Fr h₀ L h' m → News h₀ L h' news' → R r news' → Q r { s with heap := h', toks := tk' }) :
    wpAny (model PP w) (ktrTop dp un gd cn cs L a ccd cl outer) (call (.ref f) vs) Q E s := S mean mg mb dp un gd cn cs a ccd cl outer A₀ base h₀ L m s Q E B F X N T hk hd hu h
abbrev Fx.A {w : World} {S : Scope} {z : Nat} (c : Fx w S z) : Around := ktrTop c.dp c.un c.gd c.cn S c.L c.a c.ccd c.cl c.outer
abbrev Fx.env {w : World} {S : Scope} {z : Nat} (c : Fx w S z) : Env := envX c.cn S c.L c.a c.ccd c.cl
theorem wpAny_execs_one {M : Model} {A : Around} {E : Value → Shared → Prop} {s : Shared} {env : Env} {st : Stmt} {Q : Flow → Shared → Prop} (h : wpAny M A (execs [st] env) Q E s) : wpAny M A (exec st env) Q E s := fun Γ p hΓ => by
  have x := h Γ p hΓ
  rw [execs_cons, Sem.wp_bind'] at x
  refine Sem.wp_mono M Γ _ (fun f p' s' h' => ?_) (fun _ _ _ h' => h') _ _ x
  cases f <;> exact h'
section
variable {w : World} {S : Scope} {z : Nat} {c : Fx w S z} {env : Env} {l l' : FL} {I I1 I2 I3 : Led → Prop} {J J1 J2 : Value → Led → Prop}
@[irreducible] def Eg (c : Fx w S z) (env : Env) (l : FL) (I : Led → Prop) (e : PySem.Expr) (J : Value → Led → Prop) : Prop :=
  ∀ (m : Str → Option Value) (s : Shared) (news : Led) (Q E : Value → Shared → Prop), FOk l m → Fr c.g c.L s.heap m → News c.g c.L s.heap news → I news →
    (∀ u news' h' tk', Fr c.g c.L h' m → News c.g c.L h' news' → J u news' → Q u { s with heap := h', toks := tk' }) → wpAny (model PP w) c.A (eval e env) Q E s
@[irreducible] def EgL (c : Fx w S z) (env : Env) (l : FL) (I : Led → Prop) (es : List PySem.Expr) (J : List Value → Led → Prop) : Prop :=
  ∀ (pos : Pos) (m : Str → Option Value) (s : Shared) (news : Led) (Q : List Value → Shared → Prop) (E : Value → Shared → Prop), FOk l m → Fr c.g c.L s.heap m → News c.g c.L s.heap news → I news →
    (∀ vs news' h' tk', Fr c.g c.L h' m → News c.g c.L h' news' → J vs news' → Q vs { s with heap := h', toks := tk' }) → wpAny (model PP w) c.A (spliced (backTo pos (starEach es env))) Q E s
@[irreducible] def Et (c : Fx w S z) (env : Env) (l : FL) (I : Led → Prop) (t : PySem.Expr) (β : Bool) (I' : Led → Prop) : Prop :=
  ∀ (m : Str → Option Value) (s : Shared) (news : Led) (Q : Bool → Shared → Prop) (E : Value → Shared → Prop), FOk l m → Fr c.g c.L s.heap m → News c.g c.L s.heap news → I news →
    (∀ news' h' tk', Fr c.g c.L h' m → News c.g c.L h' news' → I' news' → Q β { s with heap := h', toks := tk' }) → wpAny (model PP w) c.A (isTrue t env (eval t env)) Q E s
@[irreducible] def Sx (c : Fx w S z) (I : Led → Prop) (l : FL) (ss : List Stmt) (R : Flow → (Str → Option Value) → Led → Prop) : Prop :=
  ∀ (m : Str → Option Value) (s : Shared) (news : Led) (Q : Flow → Shared → Prop), FOk l m → Fr c.g c.L s.heap m → News c.g c.L s.heap news → I news →
    (∀ f news' h' m' tk', Fr c.g c.L h' m' → News c.g c.L h' news' → R f m' news' → Q f { s with heap := h', toks := tk' }) → wpAny (model PP w) c.A (execs ss c.env) Q (fun _ _ => False) s
abbrev Sr (c : Fx w S z) (I : Led → Prop) (l : FL) (ss : List Stmt) (R : Value → Led → Prop) : Prop := Sx c I l ss fun f _ nw => ∃ u, f = .ret u ∧ R u nw
abbrev Sf (c : Fx w S z) (I : Led → Prop) (l : FL) (ss : List Stmt) (l' : FL) (I' : Led → Prop) : Prop := Sx c I l ss fun f m nw => f = .next ∧ FOk l' m ∧ I' nw
def Ei (c : Fx w S z) (env : Env) (l : FL) (I : Led → Prop) (e : PySem.Expr) (V : Value → Prop) (I' : Led → Prop) : Prop := Eg c env l I e fun u nw => V u ∧ I' nw
def EiL (c : Fx w S z) (env : Env) (l : FL) (I : Led → Prop) (es : List PySem.Expr) (Vs : List (Value → Prop)) (I' : Led → Prop) : Prop := EgL c env l I es fun us nw => Alls Vs us ∧ I' nw
abbrev Si (c : Fx w S z) (I : Led → Prop) (l : FL) (ss : List Stmt) (V : Value → Prop) (I' : Led → Prop) : Prop := Sr c I l ss fun u nw => V u ∧ I' nw
def At (n : Led) (nw : Led) : Prop := nw = n
theorem ei_name {x : Str} {pos : Pos} {V : Value → Prop} (hl : l.lookup x = some V) (hx : c.env.kindOf x = some .local := by kernel_rfl) (hd : (x == ("__debug__" : Str)) = false := by decide) : Ei c c.env l I (.Name x pos) V I := by
  with_unfolding_all
    exact fun m s news Q E fo F N i ret => let ⟨v, hv, hV⟩ := fo x V hl
        nameX_L F hv (ret v news s.heap s.toks F N ⟨hV, i⟩) c.hk hx hd
theorem ei_int {i : Int} {k : Tok} {pos : Pos} : Ei c env l I (.Constant (.int i) k pos) (isI i) I := by with_unfolding_all exact fun m s news Q E fo F N i ret => wpAny_Constant_int (ret _ news s.heap _ F N ⟨⟨_, rfl⟩, i⟩)
theorem ei_str {x : Str} {k : Nat} {pos : Pos} : Ei c env l I (.Constant (.str x) k pos) (isS x) I := by with_unfolding_all exact fun m s news Q E fo F N i ret => Constant_str (ret _ news s.heap _ F N ⟨⟨_, rfl⟩, i⟩)
theorem ei_globV {fn : Str} {p1 : Pos} {v : Value} (hf : nsIn (kF w.params) mainGlobals fn = some (some v)) (hx : c.env.kindOf fn = some .globalImplicit) (hd : (fn == ("__debug__" : Str)) = false) : Ei c c.env l I (.Name fn p1) (fun u => u = v) I := by with_unfolding_all exact fun m s news Q E fo F N i ret => nameX_K F c.X (topRead_of c.T) hf (ret _ news s.heap s.toks F N ⟨rfl, i⟩) c.hk hx hd
theorem ei_glob {fn : Str} {p1 : Pos} {f : Addr} (hx : c.env.kindOf fn = some .globalImplicit := by kernel_rfl) (hd : (fn == ("__debug__" : Str)) = false := by decide) (hf : nsIn (kF w.params) mainGlobals fn = some (some (.ref f)) := by kernel_rfl) : Ei c c.env l I (.Name fn p1) (isR f) I := ei_globV hf hx hd
theorem eg_mono {e : PySem.Expr} (h : Eg c env l I e J) (q : ∀ u nw, J u nw → J1 u nw) : Eg c env l I e J1 := by
  with_unfolding_all
    exact fun m s news Q E fo F N i ret =>
      h m s news Q E fo F N i fun u news' h' tk' F' N' j => ret u news' h' tk' F' N' (q u news' j)
theorem eg_pre {e : PySem.Expr} (h : Eg c env l I e J) (q : ∀ nw, I1 nw → I nw) : Eg c env l I1 e J := by with_unfolding_all exact fun m s news Q E fo F N i ret => h m s news Q E fo F N (q _ i) ret
theorem ei_imp {e : PySem.Expr} {V V' : Value → Prop} (h : Ei c env l I e V I1) (q : ∀ u, V u → V' u) : Ei c env l I e V' I1 := eg_mono h fun u nw j => ⟨q u j.1, j.2⟩
theorem ei_eq {e : PySem.Expr} {i j : Int} (h : Ei c env l I e (isI i) I1) (q : i = j) : Ei c env l I e (isI j) I1 := q ▸ h
theorem egl_nil {J : List Value → Led → Prop} (h : ∀ nw, I nw → J [] nw) : EgL c env l I [] J := by with_unfolding_all exact fun pos m s news Q E fo F N i ret => args_nil (ret [] news s.heap s.toks F N (h _ i))
theorem egl_cons {e : PySem.Expr} {es : List PySem.Expr} {J : List Value → Led → Prop} (he : unstarred e = true) (h : Eg c env l I e J1) (hs : ∀ u, EgL c env l (J1 u) es (fun us nw => J (u :: us) nw)) : EgL c env l I (e :: es) J := by
  with_unfolding_all
    exact fun pos m s news Q E fo F N i ret =>
      args_cons (h m s news _ E fo F N i fun u news' h' tk' F' N' j => hs u pos m _ news' _ E fo F' N' j fun vs news'' h'' tk'' F'' N'' k => ret (u :: vs) news'' h'' tk'' F'' N'' k) (star_of he es)
theorem egl_and {p : Prop} {es : List PySem.Expr} {J : List Value → Led → Prop} (h : p → EgL c env l I es J) : EgL c env l (fun nw => p ∧ I nw) es J := by with_unfolding_all exact fun pos m s news Q E fo F N i ret => h i.1 pos m s news Q E fo F N i.2 ret
theorem egl_ex {α : Sort _} {K : α → Led → Prop} {es : List PySem.Expr} {J : List Value → Led → Prop} (h : ∀ a, EgL c env l (K a) es J) : EgL c env l (fun nw => ∃ a, K a nw) es J := by with_unfolding_all exact fun pos m s news Q E fo F N i ret => let ⟨a, i⟩ := i; h a pos m s news Q E fo F N i ret
theorem egl_pre {es : List PySem.Expr} {J : List Value → Led → Prop} (h : EgL c env l I es J) (q : ∀ nw, I1 nw → I nw) : EgL c env l I1 es J := by with_unfolding_all exact fun pos m s news Q E fo F N i ret => h pos m s news Q E fo F N (q _ i) ret
theorem eil_nil : EiL c env l I [] [] I := egl_nil fun _ i => ⟨trivial, i⟩
theorem eil_cons {e : PySem.Expr} {es : List PySem.Expr} {V : Value → Prop} {Vs : List (Value → Prop)} (he : unstarred e = true) (h : Ei c env l I e V I1) (hs : EiL c env l I1 es Vs I2) : EiL c env l I (e :: es) (V :: Vs) I2 := by with_unfolding_all exact egl_cons he h fun u => egl_and fun hu => fun pos m s news Q E fo F N i ret => hs pos m s news Q E fo F N i fun vs nw h' tk' F' N' j => ret vs nw h' tk' F' N' ⟨⟨hu, j.1⟩, j.2⟩
theorem eg_call {fn : Str} {p1 p2 : Pos} {f : Addr} {sz : Nat} {e : PySem.Expr} {es : List PySem.Expr} {JA : List Value → Led → Prop} (hfe : Ei c env l I (.Name fn p1) (isR f) I) (hp : keepIn (kF w.params) (.ref f) = true) (hz : Nat.ble sz z = true) (hs0 : (e :: es).all unstarred = true) (ha : EgL c env l I (e :: es) JA)
    (hs : ∀ vs nw h, News c.g c.L h nw → JA vs nw → Spec w f sz nw vs J) : Eg c env l I (.Call (.Name fn p1) (e :: es) [] p2) J := by
  with_unfolding_all
    exact fun m s news Q E fo F N i ret => Call_ (hfe m s news _ E fo F N i fun u n0 h0 tk0 F0 N0 i0 => by
        obtain ⟨hu0, i0⟩ := i0
        obtain rfl : u = .ref f := hu0
        exact callWith_K c.X hp (ha _ m _ n0 _ E fo F0 N0 i0 fun vs news' h' tk' F' N' hV =>
          ⟨c.X.keeps F'.keep, use_spec (hs vs news' h' N' hV) c.B F' c.X N' c.T c.hk (Nat.lt_of_le_of_lt (Nat.add_le_add_left (Nat.le_of_ble_eq_true hz) _) c.room) (Nat.lt_of_le_of_lt (Nat.add_le_add_left (Nat.mul_le_mul_left 8 (Nat.le_of_ble_eq_true hz)) _) c.units)
            fun r news'' h'' tk'' F'' N'' R => ret r news'' h'' tk'' F'' N'' R⟩) (star_of (Bool.and_eq_true_iff.mp hs0).1 es) (plain_of (Bool.and_eq_true_iff.mp hs0).2))
theorem ei_call {fn : Str} {p1 p2 : Pos} {f : Addr} {sz : Nat} {e : PySem.Expr} {es : List PySem.Expr} {Vs : List (Value → Prop)} {V : Value → Prop} (hfe : Ei c env l I (.Name fn p1) (isR f) I) (hp : keepIn (kF w.params) (.ref f) = true) (hz : Nat.ble sz z = true) (hs0 : (e :: es).all unstarred = true) (ha : EiL c env l I (e :: es) Vs I1)
    (hs : ∀ vs nw, Alls Vs vs → I1 nw → Spec w f sz nw vs fun r n' => V r ∧ I2 n') : Ei c env l I (.Call (.Name fn p1) (e :: es) [] p2) V I2 := eg_call hfe hp hz hs0 ha fun vs nw h N j => hs vs nw j.1 j.2
theorem Spec.mono {w : World} {f : Addr} {sz : Nat} {news : Led} {vs : List Value} {R R' : Value → Led → Prop} (S : Spec w f sz news vs R) (h : ∀ r n, R r n → R' r n) : Spec w f sz news vs R' :=
  fun mean mg mb dp un gd cn cs a ccd cl outer A₀ base h₀ L m s Q E B F X N T hk hd hu hret => S mean mg mb dp un gd cn cs a ccd cl outer A₀ base h₀ L m s Q E B F X N T hk hd hu fun r n h' tk' F' N' r' => hret r n h' tk' F' N' (h r n r')
theorem ei_callP {fn : Str} {p1 p2 : Pos} {f : Addr} {sz : Nat} {e : PySem.Expr} {es : List PySem.Expr} {Vs : List (Value → Prop)} {V : Value → Prop} (hfe : Ei c env l I (.Name fn p1) (isR f) I) (hp : keepIn (kF w.params) (.ref f) = true) (hz : Nat.ble sz z = true) (hs0 : (e :: es).all unstarred = true) (ha : EiL c env l I (e :: es) Vs I1)
    (hs : ∀ vs nw, Alls Vs vs → Spec w f sz nw vs fun r n' => n' = nw ∧ V r) : Ei c env l I (.Call (.Name fn p1) (e :: es) [] p2) V I1 := ei_call hfe hp hz hs0 ha fun vs nw hA i => (hs vs nw hA).mono fun r n q => ⟨q.2, q.1 ▸ i⟩
theorem ei_callQ (ps : List Pt) {fn : Str} {p1 p2 : Pos} {f : Addr} {sz : Nat} {e : PySem.Expr} {es : List PySem.Expr} {V : Value → Prop} (hfe : Ei c env l I (.Name fn p1) (isR f) I) (hp : keepIn (kF w.params) (.ref f) = true) (hz : Nat.ble sz z = true) (hs0 : (e :: es).all unstarred = true) (ha : EiL c env l I (e :: es) (ps.map Pt.ok) I1)
    (hs : ∀ nw, PtE ps fun vs => Spec w f sz nw vs fun r n' => n' = nw ∧ V r) : Ei c env l I (.Call (.Name fn p1) (e :: es) [] p2) V I1 := ei_callP hfe hp hz hs0 ha fun vs nw hA => pt_elim (hs nw) hA
theorem ei_bin {op : Operator} {a b : PySem.Expr} {p : Pos} {U V R : Value → Prop} (ha : Ei c env l I a U I1) (hb : Ei c env l I1 b V I2)
    (hs : ∀ (u v : Value) (s : Shared) (m : Str → Option Value) (news : Led) (Q E : Value → Shared → Prop), U u → V v → Fr c.g c.L s.heap m → News c.g c.L s.heap news → (∀ r tk', R r → Q r { s with toks := tk' }) → wpAny (model PP w) c.A (binaryOp op u v) Q E s) : Ei c env l I (.BinOp a op b p) R I2 := by
  with_unfolding_all
    exact fun m s news Q E fo F N i ret =>
      wpAny_BinOp (ha m s news _ E fo F N i fun u n1 h' tk' F' N' hu => hb m _ n1 _ E fo F' N' hu.2 fun v n2 h2 tk2 F2 N2 hv => hs u v _ m n2 Q E hu.1 hv.1 F2 N2 fun r tk3 hr => ret r n2 h2 tk3 F2 N2 ⟨hr, hv.2⟩)
theorem ei_add {a b : PySem.Expr} {p : Pos} {i j : Int} (ha : Ei c env l I a (isI i) I1) (hb : Ei c env l I1 b (isI j) I2) : Ei c env l I (.BinOp a .Add b p) (isI (i + j)) I2 := ei_bin ha hb fun u v s m news Q E hu hv F N ret => by
  obtain ⟨t1, rfl⟩ := hu
  obtain ⟨t2, rfl⟩ := hv
  exact add_int (ret _ _ ⟨_, rfl⟩)
theorem ei_sub {a b : PySem.Expr} {p : Pos} {i j : Int} (ha : Ei c env l I a (isI i) I1) (hb : Ei c env l I1 b (isI j) I2) : Ei c env l I (.BinOp a .Sub b p) (isI (i - j)) I2 := ei_bin ha hb fun u v s m news Q E hu hv F N ret => by
  obtain ⟨t1, rfl⟩ := hu
  obtain ⟨t2, rfl⟩ := hv
  exact sub_int (ret _ _ ⟨_, rfl⟩)
theorem ei_pow {a b : PySem.Expr} {p : Pos} {i j : Int} (ha : Ei c env l I a (isI i) I1) (hb : Ei c env l I1 b (isI j) I2) (h0 : 0 ≤ j) (h1 : j ≤ 150) (hi : i.natAbs < 2 ^ 64) : Ei c env l I (.BinOp a .Pow b p) (isI (i ^ j.toNat)) I2 := ei_bin ha hb fun u v s m news Q E hu hv F N ret => by
  obtain ⟨t1, rfl⟩ := hu
  obtain ⟨t2, rfl⟩ := hv
  exact pow_int_small h0 (Int.le_trans h1 (by decide)) hi (ret _ _ ⟨_, rfl⟩)
theorem ti_cmp {a b : PySem.Expr} {op : CmpOp} {p : Pos} {U V : Value → Prop} {β : Bool} (hm : behindInMarks op b = false) (ha : Ei c env l I a U I1) (hb : Ei c env l I1 b V I2)
    (hs : ∀ (u v : Value) (s : Shared) (m : Str → Option Value) (news : Led) (Q E : Value → Shared → Prop), U u → V v → Fr c.g c.L s.heap m → News c.g c.L s.heap news → I2 news → (∀ tk', Q (.bool β) { s with toks := tk' }) → wpAny (model PP w) c.A (compareOp op u v) Q E s) : Et c env l I (.Compare a [op] [b] p) β I2 := by
  with_unfolding_all
    exact fun m s news Q E fo F N i ret =>
      wpAny_isTrue_Compare1 (ha m s news _ E fo F N i fun u n1 h' tk' F' N' hu => hb m _ n1 _ E fo F' N' hu.2 fun v n2 h2 tk2 F2 N2 hv => hs u v _ m n2 _ E hu.1 hv.1 F2 N2 hv.2 fun tk3 => wpAny_truthy_bool (ret n2 h2 tk3 F2 N2 hv.2)) hm
theorem ei_cmp {a b : PySem.Expr} {op : CmpOp} {p : Pos} {U V : Value → Prop} {β : Bool} (hm : behindInMarks op b = false) (ha : Ei c env l I a U I1) (hb : Ei c env l I1 b V I2)
    (hs : ∀ (u v : Value) (s : Shared) (m : Str → Option Value) (news : Led) (Q E : Value → Shared → Prop), U u → V v → Fr c.g c.L s.heap m → News c.g c.L s.heap news → I2 news → (∀ tk', Q (.bool β) { s with toks := tk' }) → wpAny (model PP w) c.A (compareOp op u v) Q E s) : Ei c env l I (.Compare a [op] [b] p) (isB β) I2 := by
  with_unfolding_all
    exact fun m s news Q E fo F N i ret =>
      wpAny_Compare1 (ha m s news _ E fo F N i fun u n1 h' tk' F' N' hu => hb m _ n1 _ E fo F' N' hu.2 fun v n2 h2 tk2 F2 N2 hv => hs u v _ m n2 _ E hu.1 hv.1 F2 N2 hv.2 fun tk3 => ret _ n2 h2 tk3 F2 N2 ⟨rfl, hv.2⟩) hm
theorem ti_eqI {a b : PySem.Expr} {p : Pos} {i j : Int} (ha : Ei c env l I a (isI i) I1) (hb : Ei c env l I1 b (isI j) I2) : Et c env l I (.Compare a [.Eq] [b] p) (i == j) I2 := ti_cmp (marks_of rfl) ha hb fun u v s m news Q E hu hv F N i2 ret => by
  obtain ⟨t1, rfl⟩ := hu
  obtain ⟨t2, rfl⟩ := hv
  exact eq_int (ret _)
theorem ti_neI {a b : PySem.Expr} {p : Pos} {i j : Int} (ha : Ei c env l I a (isI i) I1) (hb : Ei c env l I1 b (isI j) I2) : Et c env l I (.Compare a [.NotEq] [b] p) (i != j) I2 := ti_cmp (marks_of rfl) ha hb fun u v s m news Q E hu hv F N i2 ret => by
  obtain ⟨t1, rfl⟩ := hu
  obtain ⟨t2, rfl⟩ := hv
  exact ne_int (ret _)
theorem ti_geI {a b : PySem.Expr} {p : Pos} {i j : Int} (ha : Ei c env l I a (isI i) I1) (hb : Ei c env l I1 b (isI j) I2) : Et c env l I (.Compare a [.GtE] [b] p) (decide (j ≤ i)) I2 := ti_cmp (marks_of rfl) ha hb fun u v s m news Q E hu hv F N i2 ret => by
  obtain ⟨t1, rfl⟩ := hu
  obtain ⟨t2, rfl⟩ := hv
  exact ge_int (ret _)
theorem ti_gtI {a b : PySem.Expr} {p : Pos} {i j : Int} (ha : Ei c env l I a (isI i) I1) (hb : Ei c env l I1 b (isI j) I2) : Et c env l I (.Compare a [.Gt] [b] p) (decide (i > j)) I2 := ti_cmp (marks_of rfl) ha hb fun u v s m news Q E hu hv F N i2 ret => by
  obtain ⟨t1, rfl⟩ := hu
  obtain ⟨t2, rfl⟩ := hv
  exact gt_int (ret _)
theorem ti_ltI {a b : PySem.Expr} {p : Pos} {i j : Int} (ha : Ei c env l I a (isI i) I1) (hb : Ei c env l I1 b (isI j) I2) : Et c env l I (.Compare a [.Lt] [b] p) (decide (i < j)) I2 := ti_cmp (marks_of rfl) ha hb fun u v s m news Q E hu hv F N i2 ret => by
  obtain ⟨t1, rfl⟩ := hu
  obtain ⟨t2, rfl⟩ := hv
  exact lt_int (ret _)
theorem ti_eqS {a b : PySem.Expr} {p : Pos} {x y : Str} (ha : Ei c env l I a (isS x) I1) (hb : Ei c env l I1 b (isS y) I2) : Et c env l I (.Compare a [.Eq] [b] p) (x == y) I2 := ti_cmp (marks_of rfl) ha hb fun u v s m news Q E hu hv F N i2 ret => by
  obtain ⟨t1, rfl⟩ := hu
  obtain ⟨t2, rfl⟩ := hv
  exact eq_str (ret _)
theorem ti_to {t : PySem.Expr} {β β' : Bool} (h : Et c env l I t β I1) (q : β = β') : Et c env l I t β' I1 := q ▸ h
theorem eg_if {t e1 e2 : PySem.Expr} {p : Pos} {β : Bool} (ht : Et c env l I t β I1) (h1 : β = true → Eg c env l I1 e1 J) (h2 : β = false → Eg c env l I1 e2 J) : Eg c env l I (.IfExp t e1 e2 p) J := by
  with_unfolding_all
    exact fun m s news Q E fo F N i ret =>
      IfExp_ (ht m s news _ E fo F N i fun n1 h' tk' F' N' i1 => by
        cases β with
        | true => exact h1 rfl m _ n1 Q E fo F' N' i1 ret
        | false => exact h2 rfl m _ n1 Q E fo F' N' i1 ret)
theorem ei_if {t e1 e2 : PySem.Expr} {p : Pos} {β : Bool} {V : Value → Prop} (ht : Et c env l I t β I1) (h1 : β = true → Ei c env l I1 e1 V I2) (h2 : β = false → Ei c env l I1 e2 V I2) : Ei c env l I (.IfExp t e1 e2 p) V I2 := eg_if ht h1 h2
theorem ti_neS {a b : PySem.Expr} {p : Pos} {x y : Str} (ha : Ei c env l I a (isS x) I1) (hb : Ei c env l I1 b (isS y) I2) : Et c env l I (.Compare a [.NotEq] [b] p) (x != y) I2 := ti_cmp (marks_of rfl) ha hb fun u v s m news Q E hu hv F N i2 ret => by
  obtain ⟨t1, rfl⟩ := hu
  obtain ⟨t2, rfl⟩ := hv
  exact ne_str (ret _)
theorem ti_not {t : PySem.Expr} {p : Pos} {β : Bool} (h : Et c env l I t β I1) : Et c env l I (.UnaryOp .Not t p) (!β) I1 := by with_unfolding_all exact fun m s news Q E fo F N i ret => isTrue_not (h m s news _ E fo F N i ret)
theorem ti_val {f : PySem.Expr} {es : List PySem.Expr} {p : Pos} {β : Bool} (h : Ei c env l I (.Call f es [] p) (isB β) I1) : Et c env l I (.Call f es [] p) β I1 := by
  with_unfolding_all
    exact fun m s news Q E fo F N i ret => isTrue_plain (h m s news _ E fo F N i fun u n1 h' tk' F' N' j => by
      obtain ⟨e, j⟩ := j
      obtain rfl : u = .bool β := e
      exact wpAny_truthy_bool (ret n1 h' tk' F' N' j))
theorem ti_or_nil {p : Pos} : Et c env l I (.BoolOp .Or [] p) false I := by with_unfolding_all exact fun m s news Q E fo F N i ret => isTrue_or_nil (ret news s.heap s.toks F N i)
theorem ti_andF {a : PySem.Expr} {rest : List PySem.Expr} {p : Pos} (h : Et c env l I a false I1) : Et c env l I (.BoolOp .And (a :: rest) p) false I1 := by with_unfolding_all exact fun m s news Q E fo F N i ret => isTrue_and (h m s news _ E fo F N i ret)
theorem ti_andT {a : PySem.Expr} {rest : List PySem.Expr} {p : Pos} {β : Bool} (h : Et c env l I a true I1) (hs : Et c env l I1 (.BoolOp .And rest p) β I2) : Et c env l I (.BoolOp .And (a :: rest) p) β I2 := by
  with_unfolding_all
    exact fun m s news Q E fo F N i ret =>
      isTrue_and (h m s news _ E fo F N i fun n1 h' tk' F' N' i' => hs m _ n1 Q E fo F' N' i' ret)
theorem ti_or {a : PySem.Expr} {rest : List PySem.Expr} {p : Pos} {β : Bool} (h : Et c env l I a false I1) (hs : Et c env l I1 (.BoolOp .Or rest p) β I2) : Et c env l I (.BoolOp .Or (a :: rest) p) β I2 := by
  with_unfolding_all
    exact fun m s news Q E fo F N i ret =>
      isTrue_or (h m s news _ E fo F N i fun n1 h' tk' F' N' i' => hs m _ n1 Q E fo F' N' i' ret)
def Ec (c : Fx w S z) (env : Env) (l : FL) (I : Led → Prop) (i : Int) (ops : List CmpOp) (rs : List PySem.Expr) (β : Bool) (I' : Led → Prop) : Prop :=
  ∀ (t : Tok) (pos : Pos) (m : Str → Option Value) (s : Shared) (news : Led) (Q : Bool → Shared → Prop) (E : Value → Shared → Prop), FOk l m → Fr c.g c.L s.heap m → News c.g c.L s.heap news → I news →
    (∀ news' h' tk', Fr c.g c.L h' m → News c.g c.L h' news' → I' news' → Q β { s with heap := h', toks := tk' }) → wpAny (model PP w) c.A (testChain pos (.int i t) ops (evalEach rs env)) Q E s
theorem ec_lt {r : PySem.Expr} {i j : Int} (hb : Ei c env l I r (isI j) I1) : Ec c env l I i [.Lt] [r] (decide (i < j)) I1 := by
  with_unfolding_all
    exact fun t pos m s news Q E fo F N i0 ret => test_last (hb m s news _ E fo F N i0 fun u n1 h' tk' F' N' hu => by
      obtain ⟨⟨t2, rfl⟩, i1⟩ := hu
      exact lt_int (wpAny_truthy_bool (ret n1 h' _ F' N' i1)))
theorem ec_le {r r' : PySem.Expr} {rs : List PySem.Expr} {op' : CmpOp} {ops : List CmpOp} {i j : Int} {β : Bool} (hb : Ei c env l I r (isI j) I1) (h : i ≤ j) (hs : Ec c env l I1 j (op' :: ops) (r' :: rs) β I2) : Ec c env l I i (.LtE :: op' :: ops) (r :: r' :: rs) β I2 := by
  with_unfolding_all
    exact fun t pos m s news Q E fo F N i0 ret => test_link (hb m s news _ E fo F N i0 fun u n1 h' tk' F' N' hu => by
      obtain ⟨⟨t2, rfl⟩, i1⟩ := hu
      refine le_int (wpAny_truthy_bool ?_)
      rw [decide_eq_true h]
      exact hs _ _ m _ n1 Q E fo F' N' i1 ret)
theorem ti_chain {a r1 r2 : PySem.Expr} {rs : List PySem.Expr} {o1 o2 : CmpOp} {ops : List CmpOp} {p : Pos} {i : Int} {β : Bool} (ha : Ei c env l I a (isI i) I1) (h : Ec c env l I1 i (o1 :: o2 :: ops) (r1 :: r2 :: rs) β I2) (hm : lastMarks (o1 :: o2 :: ops) (r1 :: r2 :: rs) = false) : Et c env l I (.Compare a (o1 :: o2 :: ops) (r1 :: r2 :: rs) p) β I2 := by
  with_unfolding_all
    exact fun m s news Q E fo F N i0 ret =>
      isTrue_chain (ha m s news _ E fo F N i0 fun u n1 h' tk' F' N' hu => by
        obtain ⟨⟨t2, rfl⟩, i1⟩ := hu
        exact h _ _ m _ n1 Q E fo F' N' i1 ret) hm
theorem sr_pre {ss : List Stmt} {R : Flow → (Str → Option Value) → Led → Prop} (h : Sx c I l ss R) (q : ∀ nw, I1 nw → I nw) : Sx c I1 l ss R := by with_unfolding_all exact fun m s news Q fo F N i ret => h m s news Q fo F N (q _ i) ret
theorem sr_and {p : Prop} {ss : List Stmt} {R : Flow → (Str → Option Value) → Led → Prop} (h : p → Sx c I l ss R) : Sx c (fun nw => p ∧ I nw) l ss R := by with_unfolding_all exact fun m s news Q fo F N i ret => h i.1 m s news Q fo F N i.2 ret
theorem sr_mono {ss : List Stmt} {R R' : Value → Led → Prop} (h : Sr c I l ss R) (q : ∀ u nw, R u nw → R' u nw) : Sr c I l ss R' := by with_unfolding_all exact fun m s news Q fo F N i ret => h m s news Q fo F N i fun f nw h' m' tk' F' N' r => ret f nw h' m' tk' F' N' (r.imp fun u r => ⟨r.1, q u nw r.2⟩)
theorem sr_set {x : Str} {p1 p2 : Pos} {e : PySem.Expr} {ss : List Stmt} {R : Flow → (Str → Option Value) → Led → Prop} (hn : swapsWith e (some (.Name x p1)) p2.line c.env = pure false) (hx : c.env.kindOf x = some .local) (h : Eg c c.env l I e J) (hs : ∀ u, Sx c (J u) ((x, fun v => v = u) :: l) ss R) :
    Sx c I l (.Assign [.Name x p1] e p2 :: ss) R := by
  with_unfolding_all
    exact fun m s news Q fo F N i ret =>
      wpAny_execs_cons (wpAny_Assign_Name (h m s news _ _ fo F N i fun u news' h' tk' F' N' j =>
        storeX_L F' N' (fun h'' F'' N'' => hs u _ _ news' Q (fo.set rfl) F'' N'' j ret) c.hk hx) hn)
theorem si_set {x : Str} {p1 p2 : Pos} {e : PySem.Expr} {ss : List Stmt} {U : Value → Prop} {R : Flow → (Str → Option Value) → Led → Prop} (hn : swapsWith e (some (.Name x p1)) p2.line c.env = pure false) (hx : c.env.kindOf x = some .local) (h : Ei c c.env l I e U I1) (hs : Sx c I1 ((x, U) :: l) ss R) :
    Sx c I l (.Assign [.Name x p1] e p2 :: ss) R := by
  with_unfolding_all
    exact fun m s news Q fo F N i ret =>
      wpAny_execs_cons (wpAny_Assign_Name (h m s news _ _ fo F N i fun u news' h' tk' F' N' j =>
        storeX_L F' N' (fun h'' F'' N'' => hs _ _ news' Q (fo.set j.1) F'' N'' j.2 ret) c.hk hx) hn)
theorem sr_setX {α : Sort _} {U : α → Value → Prop} {K : α → Led → Prop} {x : Str} {p1 p2 : Pos} {e : PySem.Expr} {ss : List Stmt} {R : Flow → (Str → Option Value) → Led → Prop} (hn : swapsWith e (some (.Name x p1)) p2.line c.env = pure false) (hx : c.env.kindOf x = some .local) (h : Eg c c.env l I e fun u nw => ∃ a, U a u ∧ K a nw) (hs : ∀ a, Sx c (K a) ((x, U a) :: l) ss R) :
    Sx c I l (.Assign [.Name x p1] e p2 :: ss) R := by
  with_unfolding_all
    exact fun m s news Q fo F N i ret =>
      wpAny_execs_cons (wpAny_Assign_Name (h m s news _ _ fo F N i fun u news' h' tk' F' N' ⟨a, hu, j⟩ =>
        storeX_L F' N' (fun h'' F'' N'' => hs a _ _ news' Q (fo.set hu) F'' N'' j ret) c.hk hx) hn)
theorem sr_tupX {α : Sort _} {U1 U2 : α → Value → Prop} {K : α → Led → Prop} {JA : List Value → Led → Prop} {x y : Str} {p1 p2 p3 p4 p5 : Pos} {k1 k2 : Nat} {e1 e2 : PySem.Expr} {ss : List Stmt} {R : Flow → (Str → Option Value) → Led → Prop} (hx : c.env.kindOf x = some .local) (hy : c.env.kindOf y = some .local)
    (hs1 : swapsWithSole [.Tuple [.Name x p1, .Name y p2] k1 p3] (.Tuple [e1, e2] k2 p4) p5.line c.env = pure false) (hw : swappedStores [.Tuple [.Name x p1, .Name y p2] k1 p3] (.Tuple [e1, e2] k2 p4) c.env = pure (some [x, y]))
    (h : EgL c c.env l I [e1, e2] JA) (hJ : ∀ vs nw, JA vs nw → ∃ a v1 v2, vs = [v1, v2] ∧ U1 a v1 ∧ U2 a v2 ∧ ∀ e, K a (e :: nw)) (hs : ∀ a, Sx c (K a) ((x, U1 a) :: (y, U2 a) :: l) ss R) : Sx c I l (.Assign [.Tuple [.Name x p1, .Name y p2] k1 p3] (.Tuple [e1, e2] k2 p4) p5 :: ss) R := by
  with_unfolding_all
    exact fun m s news Q fo F N i ret =>
      wpAny_execs_cons (Assign_Tuple_swapped (Tuple_ (h _ m s news _ _ fo F N i fun vs news' h' tk' F' N' hvs => by
        obtain ⟨a, v1, v2, e, hv1, hv2, hK⟩ := hJ vs news' hvs
        subst e
        exact kup_newTuple F' N' (fun D h2 F2 N2 _ => unpackItemsN_ F2 N2 (News.isTup N2 (.head _)) rfl rfl fun h3 F3 N3 =>
          assignInOrder_cons (bindName_ (storeX_L F3 N3 (fun h4 F4 N4 => assignInOrder_cons (bindName_ (storeX_L F4 N4 (fun h5 F5 N5 => assignInOrder_nil (hs a _ _ _ Q ((fo.set hv2).set hv1) F5 N5 (hK _) ret)) c.hk hx))) c.hk hy))) (by show 2 ≤ sizeLine; decide))) hs1 hw)
theorem sr_tup2 {x y : Str} {p1 p2 p3 p4 p5 : Pos} {k1 k2 : Nat} {e1 e2 : PySem.Expr} {ss : List Stmt} {U1 U2 : Value → Prop} {R : Flow → (Str → Option Value) → Led → Prop} (hx : c.env.kindOf x = some .local) (hy : c.env.kindOf y = some .local)
    (hs1 : swapsWithSole [.Tuple [.Name x p1, .Name y p2] k1 p3] (.Tuple [e1, e2] k2 p4) p5.line c.env = pure false) (hw : swappedStores [.Tuple [.Name x p1, .Name y p2] k1 p3] (.Tuple [e1, e2] k2 p4) c.env = pure (some [x, y]))
    (h : EiL c c.env l I [e1, e2] [U1, U2] I1) (hI : ∀ e nw, I1 nw → I2 (e :: nw)) (hs : Sx c I2 ((x, U1) :: (y, U2) :: l) ss R) : Sx c I l (.Assign [.Tuple [.Name x p1, .Name y p2] k1 p3] (.Tuple [e1, e2] k2 p4) p5 :: ss) R :=
  sr_tupX (α := Unit) hx hy hs1 hw h (fun vs nw j => let ⟨v1, v2, e, h1, h2⟩ := alls2 j.1; ⟨(), v1, v2, e, h1, h2, fun e => hI e nw j.2⟩) fun _ => hs
theorem sr_ret {e : PySem.Expr} {p : Pos} {ss : List Stmt} {R : Value → Led → Prop} (h : Eg c c.env l I e R) : Sr c I l (.Return (some e) p :: ss) R := by
  with_unfolding_all
    exact fun m s news Q fo F N i ret =>
      wpAny_execs_cons (wpAny_Return_some (h m s news _ _ fo F N i fun u news' h' tk' F' N' hu => ret _ news' h' m tk' F' N' ⟨u, rfl, hu⟩))
theorem si_ret {e : PySem.Expr} {p : Pos} {ss : List Stmt} {V : Value → Prop} (h : Ei c c.env l I e V I1) : Si c I l (.Return (some e) p :: ss) V I1 := sr_ret h
theorem sr_ifF {t : PySem.Expr} {body ss : List Stmt} {p : Pos} {R : Flow → (Str → Option Value) → Led → Prop} (h : Et c c.env l I t false I1) (hs : Sx c I1 l ss R) : Sx c I l (.If t body [] p :: ss) R := by
  with_unfolding_all
    exact fun m s news Q fo F N i ret =>
      wpAny_execs_cons (wpAny_If (h m s news _ _ fo F N i fun news' h' tk' F' N' i' => wpAny_execs_nil (hs m _ news' Q fo F' N' i' ret)))
theorem sr_if {t : PySem.Expr} {body ss : List Stmt} {p : Pos} {β : Bool} {R : Value → Led → Prop} (ht : Et c c.env l I t β I1) (h1 : β = true → Sr c I1 l body R) (h2 : β = false → Sr c I1 l ss R) : Sr c I l (.If t body [] p :: ss) R := by
  with_unfolding_all
    exact fun m s news Q fo F N i ret =>
      wpAny_execs_cons (wpAny_If (ht m s news _ _ fo F N i fun n1 h' tk' F' N' i1 => by
        cases β with
        | true =>
          exact h1 rfl m _ n1 _ fo F' N' i1 fun f n2 h2 m2 tk2 F2 N2 hu => by
            obtain ⟨u, e, hu⟩ := hu
            subst e
            exact ret _ n2 h2 m2 tk2 F2 N2 ⟨u, rfl, hu⟩
        | false => exact wpAny_execs_nil (h2 rfl m _ n1 Q fo F' N' i1 ret)))
theorem sr_do {e : PySem.Expr} {p : Pos} {ss : List Stmt} {R : Flow → (Str → Option Value) → Led → Prop} (h : Ei c c.env l I e (fun u => u = .none) I1) (hs : Sx c I1 l ss R) (hsw : swapsWith e none p.line c.env = pure false) (hi : interactive c.env = false) : Sx c I l (.Expr e p :: ss) R := by
  with_unfolding_all
    exact fun m s news Q fo F N i ret =>
      wpAny_execs_cons (wpAny_Expr (h m s news _ _ fo F N i fun u news' h' tk' F' N' hu => by
        obtain ⟨hu, i'⟩ := hu
        subst hu
        exact hs m _ news' Q fo F' N' i' ret) hi hsw)
theorem sf_nil (h : ∀ nw, I nw → I1 nw) (hl : ∀ m, FOk l m → FOk l' m) : Sf c I l [] l' I1 := by with_unfolding_all exact fun m s news Q fo F N i ret => wpAny_execs_nil (ret _ news s.heap m s.toks F N ⟨rfl, hl m fo, h _ i⟩)
theorem sx_app {st : Stmt} {ss : List Stmt} {R : Flow → (Str → Option Value) → Led → Prop} (h : Sf c I l [st] l' I1) (hs : Sx c I1 l' ss R) : Sx c I l (st :: ss) R := by
  with_unfolding_all
    exact fun m s news Q fo F N i ret =>
      wpAny_execs_cons (wpAny_mono (wpAny_execs_one (h m s news (fun f s' => f = .next ∧ wpAny (model PP w) c.A (execs ss c.env) Q (fun _ _ => False) s') fo F N i fun f n1 h1 m1 tk1 F1 N1 ⟨e, fo1, i1⟩ => ⟨e, hs m1 _ n1 Q fo1 F1 N1 i1 ret⟩)) (fun f s' ⟨e, q⟩ => by subst e; exact q) fun _ _ x => x)
theorem eg_list {es : List PySem.Expr} {p : Pos} {JA : List Value → Led → Prop} (h : EgL c env l I es JA) (hlen : ∀ vs nw, JA vs nw → vs.length ≤ 1000) : Eg c env l I (.List es p) (fun u nw => ∃ D vs nw0, u = .ref D ∧ nw = (D, listOf (List.toArray vs) 0) :: nw0 ∧ JA vs nw0 ∧ ∀ p ∈ nw0, @LT.lt Nat _ p.1 D) := by
  with_unfolding_all
    exact fun m s news Q E fo F N i ret =>
      List_ (h _ m s news _ E fo F N i fun vs nw h' tk' F' N' j =>
        newList_N F' N' (fun h2 F2 N2 => ret _ _ h2 _ F2 N2 ⟨_, vs, nw, rfl, rfl, j, fun p hp => Heap.lt_size (N' p hp).1⟩) (Nat.le_trans (hlen vs nw j) (by decide)))
theorem eg_tuple {es : List PySem.Expr} {k : Nat} {p : Pos} {JA : List Value → Led → Prop} (h : EgL c env l I es JA) (hlen : ∀ vs nw, JA vs nw → vs.length ≤ 1000) : Eg c env l I (.Tuple es k p) (fun u nw => ∃ D vs nw0, u = .ref D ∧ nw = (D, tupO (List.toArray vs) 0) :: nw0 ∧ JA vs nw0 ∧ ∀ p ∈ nw0, @LT.lt Nat _ p.1 D) := by
  with_unfolding_all
    exact fun m s news Q E fo F N i ret =>
      Tuple_ (h _ m s news _ E fo F N i fun vs nw h' tk' F' N' j =>
        kup_newTuple F' N' (fun D h2 F2 N2 l2 => ret _ _ h2 _ F2 N2 ⟨D, vs, nw, rfl, rfl, j, l2⟩) (Nat.le_trans (hlen vs nw j) (by decide)))
theorem spec_defB {f : Addr} {news : Led} {vs : List Value} {R : Value → Led → Prop} {name qual : Str} {params : Arguments} {body : List Stmt} {dV kV doc pm cdv ct oc : Value} {an od : Option Addr} {osl : Array (Option Value)} {binds : List (Str × Value)}
    {o : Obj} (ho : (kF w.params).lookup f = some o) (he : o = ⟨oc, od, .func (fnOf name qual params body S dV kV doc pm an cdv ct), osl⟩) (hcd : codeIn (kF w.params) cdv qual = true) (hb : ∀ s : Shared, (kF w.params).In s.heap → BindsTo s (fnOf name qual params body S dV kV doc pm an cdv ct) ⟨vs, []⟩ binds) (hloc : ∀ y ∈ binds, S.names.lookup y.1 = some .local)
    (hco : S.isCoroutine = false) (hgen : S.isGenerator = false) (hk : S.kind = .function) (hcell : ∀ x ∈ S.names, x.2 ≠ .cell) (h : ∀ c : Fx w S z, c.cl = [] → Sr c (At news) (lOf binds.reverse) body R) : Spec w f (z + 1) news vs R := by
  with_unfolding_all
    unfold Spec
    intro mean mg mb' dp un gd cn cs a' ccd cl outer A₀ base h₀ L m s Q E B F X N T hk' hdp hu hret
    refine wpAny_call ?_
    refine code_def B F X N T rfl rfl hk' (ho.trans (congrArg some he)) hcd (show dp < recursionLimit from Nat.lt_of_le_of_lt (Nat.le_add_right _ _) hdp) (hb _ (X.keeps F.keep)) hloc ?_ hco hgen hk hcell
    intro g L' h₁ FG F' N' B' X' T'
    refine wpAny_mono (h ⟨mean, mg, mb', dp + 1, un + 3, gd, qual, L', f, cdv, [], _, _, _, g, B', X', T', by omega, by omega, hk⟩ rfl _ _ news _ (fok_of _) F' N' rfl ?_) (fun _ _ x => x) (fun _ _ x => x.elim)
    intro f news' h' m' tk' F2 N2 hR
    obtain ⟨u, e, hR⟩ := hR
    subst e
    exact leaveK_ F2 N2 fun F3 N3 => hret u news' _ _ F3 N3 hR
theorem spec_def {f : Addr} {news : Led} {vs : List Value} {R : Value → Led → Prop} {name qual : Str} {params : Arguments} {body : List Stmt} {dV kV doc pm cdv ct oc : Value} {an od : Option Addr} {osl : Array (Option Value)} {binds : List (Str × Value)}
    {o : Obj} (ho : (kF w.params).lookup f = some o) (he : o = ⟨oc, od, .func (fnOf name qual params body S dV kV doc pm an cdv ct), osl⟩) (hcd : codeIn (kF w.params) cdv qual = true) (hb : bindArgs (fnOf name qual params body S dV kV doc pm an cdv ct) ⟨vs, []⟩ = pure binds) (hloc : ∀ y ∈ binds, S.names.lookup y.1 = some .local)
    (hco : S.isCoroutine = false) (hgen : S.isGenerator = false) (hk : S.kind = .function) (hcell : ∀ x ∈ S.names, x.2 ≠ .cell) (h : ∀ c : Fx w S z, c.cl = [] → Sr c (At news) (lOf binds.reverse) body R) : Spec w f (z + 1) news vs R :=
  spec_defB ho he hcd (fun _ _ => BindsTo.of_eq hb) hloc hco hgen hk hcell h
theorem spec_defN {f : Addr} {news : Led} {vs : List Value} {R : Value → Led → Prop} {I' : Led → Prop} {name qual : Str} {params : Arguments} {body : List Stmt} {dV kV doc pm cdv ct oc : Value} {an od : Option Addr} {osl : Array (Option Value)} {binds : List (Str × Value)}
    {o : Obj} (ho : (kF w.params).lookup f = some o) (he : o = ⟨oc, od, .func (fnOf name qual params body S dV kV doc pm an cdv ct), osl⟩) (hcd : codeIn (kF w.params) cdv qual = true) (hb : bindArgs (fnOf name qual params body S dV kV doc pm an cdv ct) ⟨vs, []⟩ = pure binds) (hloc : ∀ y ∈ binds, S.names.lookup y.1 = some .local)
    (hco : S.isCoroutine = false) (hgen : S.isGenerator = false) (hk : S.kind = .function) (hcell : ∀ x ∈ S.names, x.2 ≠ .cell) (h : ∀ c : Fx w S z, Sf c (At news) (lOf binds.reverse) body [] I') (hR : ∀ n, I' n → R .none n) : Spec w f (z + 1) news vs R := by
  with_unfolding_all
    unfold Spec
    intro mean mg mb' dp un gd cn cs a' ccd cl outer A₀ base h₀ L m s Q E B F X N T hk' hdp hu hret
    refine wpAny_call ?_
    refine code_def B F X N T rfl rfl hk' (ho.trans (congrArg some he)) hcd (show dp < recursionLimit from Nat.lt_of_le_of_lt (Nat.le_add_right _ _) hdp) (BindsTo.of_eq hb) hloc ?_ hco hgen hk hcell
    intro g L' h₁ FG F' N' B' X' T'
    refine wpAny_mono (h ⟨mean, mg, mb', dp + 1, un + 3, gd, qual, L', f, cdv, [], _, _, _, g, B', X', T', by omega, by omega, hk⟩ _ _ news _ (fok_of _) F' N' rfl ?_) (fun _ _ x => x) (fun _ _ x => x.elim)
    intro f news' h' m' tk' F2 N2 j
    obtain ⟨e, _, j⟩ := j
    subst e
    exact leaveK_ F2 N2 fun F3 N3 => hret _ news' _ _ F3 N3 (hR _ j)
theorem spec_pure {f : Addr} {news : Led} {vs : List Value} {V : Value → Prop} {name qual : Str} {params : Arguments} {body : List Stmt} {dV kV doc pm cdv ct oc : Value} {an od : Option Addr} {osl : Array (Option Value)} {binds : List (Str × Value)}
    {o : Obj} (ho : (kF w.params).lookup f = some o) (he : o = ⟨oc, od, .func (fnOf name qual params body S dV kV doc pm an cdv ct), osl⟩) (hcd : codeIn (kF w.params) cdv qual = true) (hb : bindArgs (fnOf name qual params body S dV kV doc pm an cdv ct) ⟨vs, []⟩ = pure binds) (hloc : ∀ y ∈ binds, S.names.lookup y.1 = some .local)
    (hco : S.isCoroutine = false) (hgen : S.isGenerator = false) (hk : S.kind = .function) (hcell : ∀ x ∈ S.names, x.2 ≠ .cell) (h : ∀ c : Fx w S z, Si c (At news) (lOf binds.reverse) body V (At news)) : Spec w f (z + 1) news vs (fun r n => n = news ∧ V r) :=
  spec_def ho he hcd hb hloc hco hgen hk hcell fun c _ => sr_mono (h c) fun _ _ q => ⟨q.2, q.1⟩
end
theorem meth0 {o : PySem.Expr} {nm : Str} {p1 p2 : Pos} {es : List PySem.Expr} {env : Env} (hb : attributeBase o nm env (eval o env) = eval o env) (hu : es.all unstarred = true) (h30 : Nat.ble (es.length + 1) 30 = true) (hl : (p1.endLine == p2.line) = true) : Meth0 o nm p1 p2 es env := ⟨do return (← importBound o env).getD true, by
  have h1 : methodCallForm (es.length + 0) (backTo p2 (starEach es env)) [] = true := by
    unfold methodCallForm
    rw [← List.not_any_eq_all_not, plain_of hu]
    exact decide_eq_true (Nat.le_of_ble_eq_true h30)
  rw [arm_eval_Call]
  show (attributeBase o nm env (eval o env) >>= fun ov => standAt p1.atName >>= fun _ => holding [ov] (calleeOf (methodCallForm (es.length + 0) (backTo p2 (starEach es env)) []) o env ov nm) >>= fun r => (if (!methodCallForm (es.length + 0) (backTo p2 (starEach es env)) [] || p1.endLine == p2.line) = true then pure p2 else _) >>= fun q => callWith q r.1 r.2 (backTo p2 (starEach es env)) []) = _
  rw [h1, hl, hb]
  rfl⟩
structure BM (w : World) (nm : Str) (f : Addr) : Prop where
  hg : plainGet (kF w.params) 740 nm = true
  hf : findIn (kF w.params) (.ref 740) nm = some (some (.ref f))
  ht : isFn (kF w.params) (.ref f) = true
  hp : keepIn (kF w.params) (.ref f) = true
structure BF (w : World) (nm : Str) : Prop where
  hg : plainGet (kF w.params) 740 nm = true
  ha : findIn (kF w.params) (.ref 740) nm = some none
theorem bank_dict {w : World} : hasDictIn (kF w.params) 740 = true := by kernel_rfl
section
variable {w : World}
theorem bf_ops : BF w "term_ops" := ⟨by kernel_rfl, by kernel_rfl⟩
theorem bf_args : BF w "term_args" := ⟨by kernel_rfl, by kernel_rfl⟩
theorem bf_sorts : BF w "term_sorts" := ⟨by kernel_rfl, by kernel_rfl⟩
theorem bf_datas : BF w "term_datas" := ⟨by kernel_rfl, by kernel_rfl⟩
theorem bf_N : BF w "numbers" := ⟨by kernel_rfl, by kernel_rfl⟩
end
theorem at_self {P : Led → Prop} {n : Led} (h : P n) : ∀ nw, At n nw → P nw := fun nw e => by rw [show nw = n from e]; exact h
theorem alls_len : ∀ {Vs : List (Value → Prop)} {vs : List Value}, Alls Vs vs → vs.length = Vs.length
  | [], [], _ => rfl
  | [], _ :: _, h => h.elim
  | _ :: _, [], h => h.elim
  | _ :: _, _ :: _, h => congrArg (· + 1) (alls_len h.2)
def FieldAt (B D : Addr) (nm : Str) (r : Option Value) (nw : Led) : Prop := ∃ es n, (B, instObj 740 D) ∈ nw ∧ (D, dictOf es n) ∈ nw ∧ getL nm es = some r
def ItemAt (L : Addr) (t : Int) (V : Value → Prop) (nw : Led) : Prop := ∃ arr e v, (L, listOf arr e) ∈ nw ∧ arr[t.toNat]? = some v ∧ V v ∧ 0 ≤ t ∧ t < 2 ^ 63
theorem item_at {prog : Program} {w : World} {A : Around} {E : Value → Shared → Prop} {s : Shared} {h₀ : Heap} {L l : Addr} {news : Led} {arr : Array Value} {e : Nat} {value slice : PySem.Expr} {k : Int} {u : Tok} {v : Value} {Q : Value → Shared → Prop} (N : News h₀ L s.heap news) (hm : (l, listOf arr e) ∈ news)
    (hx : arr[k.toNat]? = some v) (h0 : 0 ≤ k) (hhi : k < 2 ^ 63) (h : Q v s)
    (hs : subscripted slice false (.ref l) (.int k u) = operate [.ref l, .int k u] (getItem (.ref l) (.int k u)) := by with_unfolding_all rfl) :
    wpAny (model prog w) A (subscriptTail value slice (.ref l) (.int k u)) Q E s :=
  have hl : s.heap.IsList l arr := ⟨_, N.get hm, rfl, e, rfl⟩
  tail_any hl.typeIs slot_list_getitem.lookup (wpAny_getItem_list hl h0 hhi hx h) hs
theorem len_at {prog : Program} {w : World} {A : Around} {E : Value → Shared → Prop} {s : Shared} {h₀ : Heap} {L l : Addr} {news : Led} {arr : Array Value} {e k : Nat} {Q : Value → Shared → Prop} (N : News h₀ L s.heap news) (hm : (l, listOf arr e) ∈ news) (hz : arr.size = k) (hk : k < 2 ^ 62)
    (h : Q (.int (k : Nat) (s.toks + 1)) { s with toks := s.toks + 1 + 1 }) : wpAny (model prog w) A (call (.builtin "len") [.ref l]) Q E s := by
  have hl : s.heap.IsList l arr := ⟨_, N.get hm, rfl, e, rfl⟩
  subst hz
  exact Calls.call_len_list hl (Int.ofNat_lt.mpr (Nat.lt_trans hk (by decide) : arr.size < 2 ^ 63)) h
section
variable {w : World} {S : Scope} {z : Nat} {c : Fx w S z} {env : Env} {l l' : FL} {I I1 I2 : Led → Prop} {J : Value → Led → Prop} {B D L : Addr} {t : Int}
theorem eg_meth {eb e : PySem.Expr} {nm : Str} {p1 p2 : Pos} {f : Addr} {sz : Nat} {es : List PySem.Expr} {JA : List Value → Led → Prop} (M : BM w nm f) (hb : Ei c env l I eb (isR B) I1) (hfb : ∀ nw, I1 nw → FieldAt B D nm none nw) (hz : Nat.ble sz z = true) (hs0 : (e :: es).all unstarred = true)
    (ha : EgL c env l I1 (e :: es) JA) (hs : ∀ vs nw h, News c.g c.L h nw → JA vs nw → Spec w f sz nw (.ref B :: vs) J) (he : Meth0 eb nm p1 p2 (e :: es) env) :
    Eg c env l I (.Call (.Attribute eb nm p1) (e :: es) [] p2) J := by
  with_unfolding_all
    exact fun m s news Q E fo F N i ret => by
      obtain ⟨pl, he⟩ := he
      refine MethodCall_ (hb m s news _ E fo F N i fun u news0 h0 tk0 F0 N0 i0 => ?_) he
      obtain ⟨hu0, i0⟩ := i0
      obtain rfl : u = .ref B := hu0
      obtain ⟨es', n', hI, hD, hl⟩ := hfb _ i0
      refine method_inst F0 c.X (InstAt.of_news N0 hI hD) M.hg M.hf M.ht hl ?_
      exact callWith_K c.X M.hp (ha _ m _ news0 _ E fo F0 N0 i0 fun vs news' h' tk' F' N' hV =>
          ⟨c.X.keeps F'.keep, use_spec (hs vs news' h' N' hV) c.B F' c.X N' c.T c.hk (Nat.lt_of_le_of_lt (Nat.add_le_add_left (Nat.le_of_ble_eq_true hz) _) c.room) (Nat.lt_of_le_of_lt (Nat.add_le_add_left (Nat.mul_le_mul_left 8 (Nat.le_of_ble_eq_true hz)) _) c.units)
            fun r news'' h'' tk'' F'' N'' R => ret r news'' h'' tk'' F'' N'' R⟩) (star_of (Bool.and_eq_true_iff.mp hs0).1 es) (plain_of (Bool.and_eq_true_iff.mp hs0).2)
theorem ei_field {x nm : Str} {p1 p2 : Pos} {v : Value} (f : BF w nm) (hb : Ei c env l I (.Name x p1) (isR B) I1) (hfb : ∀ nw, I1 nw → FieldAt B D nm (some v) nw) (hv : handedIn v = true) : Ei c env l I (.Attribute (.Name x p1) nm p2) (fun u => u = v) I1 := by
  with_unfolding_all
    exact fun m s news Q E fo F N i ret =>
      Attribute_any_ (hb m s news _ E fo F N i fun u n0 h0 tk0 F0 N0 i0 => by
        obtain ⟨hu0, i0⟩ := i0
        obtain rfl : u = .ref B := hu0
        obtain ⟨es', n', hI, hD, hl⟩ := hfb _ i0
        exact get_own F0 c.X (InstAt.of_news N0 hI hD) f.hg bank_dict f.ha rfl hl hv (ret _ n0 h0 _ F0 N0 ⟨rfl, i0⟩))
theorem ei_item {ea ei : PySem.Expr} {p : Pos} {V : Value → Prop} (ha : Ei c env l I ea (isR L) I1) (hi : Ei c env l I1 ei (isI t) I2) (hm : ∀ nw, I2 nw → ItemAt L t V nw) (hs : ∀ k, subscripted ei false (.ref L) (.int t k) = operate [.ref L, .int t k] (getItem (.ref L) (.int t k))) : Ei c env l I (.Subscript ea ei p) V I2 := by
  with_unfolding_all
    exact fun m s news Q E fo F N i ret =>
      Subscript_ (ha m s news _ E fo F N i fun u n0 h0 tk0 F0 N0 j0 => hi m _ n0 _ E fo F0 N0 j0.2 fun v n1 h1 tk1 F1 N1 j1 => by
        obtain ⟨hu, j0⟩ := j0
        obtain ⟨⟨k, hv⟩, j1⟩ := j1
        obtain rfl : u = .ref L := hu
        subst hv
        obtain ⟨arr, e, v, hm, hx, hV, t0, t1⟩ := hm _ j1
        exact item_at N1 hm hx t0 t1 (ret v n1 h1 _ F1 N1 ⟨hV, j1⟩) (hs k))
theorem eg_menu {es : List PySem.Expr} {ei : PySem.Expr} {p1 p2 : Pos} {Vs : List (Value → Prop)} {V : Value → Prop} {K : Led → Prop} (h : EiL c env l I es Vs I1) (hlen : Nat.ble Vs.length 1000 = true) (hi : ∀ D o, Eg c env l (fun nw => ∃ n0, I1 n0 ∧ nw = (D, o) :: n0 ∧ ∀ p ∈ n0, @LT.lt Nat _ p.1 D) ei fun u nw => ∃ i, isI i u ∧ (0 ≤ i ∧ i < Vs.length ∧ (D, o) ∈ nw) ∧ K nw)
    (hV : ∀ W ∈ Vs, ∀ u, W u → V u) (hs : ∀ D i k, subscripted ei false (.ref D) (.int i k) = operate [.ref D, .int i k] (getItem (.ref D) (.int i k))) : Ei c env l I (.Subscript (.List es p1) ei p2) V K := by
  with_unfolding_all
    exact fun m s news Q E fo F N i0 ret =>
      Subscript_ (eg_list h (fun vs nw j => by rw [alls_len j.1]; exact Nat.le_of_ble_eq_true hlen) m s news _ E fo F N i0 fun u n0 h0 tk0 F0 N0 ⟨D, vs, nw0, e1, e2, j, lt⟩ => by
        subst e1
        refine hi D _ m _ n0 _ E fo F0 N0 ⟨nw0, j.2, e2, lt⟩ fun v n1 h1 tk1 F1 N1 ⟨i, ⟨t, e3⟩, ⟨i0, i1, hm⟩, k⟩ => ?_
        subst e3
        obtain ⟨v, hv, hVv⟩ : ∃ v, vs.toArray[i.toNat]? = some v ∧ V v := by
          rw [List.getElem?_toArray]
          exact alls_at hV j.1 (by omega)
        exact item_at N1 hm hv i0 (by have := Nat.le_of_ble_eq_true hlen; omega) (ret v n1 h1 _ F1 N1 ⟨hVv, k⟩) (hs _ _ _))
theorem ei_blt {fn : Str} {v : Value} {p1 : Pos} (hx : c.env.kindOf fn = some .globalImplicit) (hd : (fn == ("__debug__" : Str)) = false) (hn : fn ≠ "__name__") (hf : nsIn (kF w.params) mainGlobals fn = some none) (hb : bootBuiltins fn = some v) : Ei c c.env l I (.Name fn p1) (fun u => u = v) I := by with_unfolding_all exact fun m s news Q E fo F N i ret => nameX_B F c.X (topRead_of c.T) hf hb hn (ret _ news s.heap s.toks F N ⟨rfl, i⟩) c.hk hx hd
theorem ei_builtin {fe e : PySem.Expr} {id : String} {p2 : Pos} {es : List PySem.Expr} {Vs : List (Value → Prop)} {V : Value → Prop} (hf : Ei c env l I fe (fun u => u = .builtin id) I) (hs0 : (e :: es).all unstarred = true) (ha : EiL c env l I (e :: es) Vs I1)
    (hs : ∀ (vs : List Value) (s : Shared) (m : Str → Option Value) (news : Led) (Q E : Value → Shared → Prop), Alls Vs vs → Fr c.g c.L s.heap m → News c.g c.L s.heap news → I1 news → (∀ r h' tk', Fr c.g c.L h' m → News c.g c.L h' news → V r → Q r { s with heap := h', toks := tk' }) → wpAny (model PP w) c.A (call (.builtin id) vs) Q E s)
    (hc : ∀ {s : Shared} {Q E : Value → Shared → Prop}, wpAny (model PP w) c.A (eval fe env) (fun v s₁ => wpAny (model PP w) c.A (callWith p2 v [] (backTo p2 (starEach (e :: es) env)) []) Q E s₁) E s → wpAny (model PP w) c.A (eval (.Call fe (e :: es) [] p2) env) Q E s) :
    Ei c env l I (.Call fe (e :: es) [] p2) V I1 := by
  with_unfolding_all
    exact fun m s news Q E fo F N i ret =>
      hc (hf m s news _ E fo F N i fun u n0 h0 tk0 F0 N0 j0 => by
        obtain ⟨hu, j0⟩ := j0
        subst hu
        exact callWith_builtin1 (ha _ m _ n0 _ E fo F0 N0 j0 fun vs n1 h1 tk1 F1 N1 j1 => hs vs _ m n1 Q E j1.1 F1 N1 j1.2 fun r h2 tk2 F2 N2 hr => ret r n1 h2 tk2 F2 N2 ⟨hr, j1.2⟩) (star_of (Bool.and_eq_true_iff.mp hs0).1 es) (plain_of (Bool.and_eq_true_iff.mp hs0).2))
theorem ei_len {a : PySem.Expr} {p1 p2 : Pos} {k : Nat} (hf : Ei c env l I (.Name (Str.ofString "len") p1) (fun u => u = .builtin "len") I) (hu : unstarred a = true) (ha : Ei c env l I a (isR L) I1) (hm : ∀ nw, I1 nw → ∃ arr e, (L, listOf arr e) ∈ nw ∧ arr.size = k) (hk : k < 2 ^ 62) : Ei c env l I (.Call (.Name (Str.ofString "len") p1) [a] [] p2) (isI (k : Nat)) I1 :=
  ei_builtin hf (Bool.and_eq_true_iff.mpr ⟨hu, rfl⟩) (eil_cons hu ha eil_nil) (fun vs s m news Q E hA F N i ret => by
    obtain ⟨u1, e0, e1⟩ := alls1 hA
    obtain rfl : u1 = .ref L := e1
    subst e0
    obtain ⟨arr, e, hm, hz⟩ := hm _ i
    exact len_at N hm hz hk (ret _ s.heap _ F N ⟨_, rfl⟩)) fun h => Call_ h
def UpI (L : Addr) (arr : Array Value) (k : Nat) (V : Value → Prop) (I : Led → Prop) (nw : Led) : Prop := ∃ u nw0, V u ∧ I nw0 ∧ nw = upL L (listOf (arr.push u) (k + 1)) nw0
theorem up_kept {arr : Array Value} {k : Nat} {V : Value → Prop} {P : Addr × Obj → Prop} (h : ∀ nw, I nw → ∀ p, P p → p ∈ nw) (hne : ∀ p, P p → @Ne Nat p.1 L) : ∀ nw, UpI L arr k V I nw → ∀ p, P p → p ∈ nw := fun _ ⟨_, nw0, _, i, e⟩ p hp => e ▸ mem_up (h nw0 i p hp) (hne p hp)
theorem up_mem {arr : Array Value} {k : Nat} {V : Value → Prop} {p : Addr × Obj} (h : ∀ nw, I nw → p ∈ nw) (hne : @Ne Nat p.1 L) : ∀ nw, UpI L arr k V I nw → p ∈ nw := fun _ ⟨_, nw0, _, i, e⟩ => e ▸ mem_up (h nw0 i) hne
theorem up_head {arr : Array Value} {k : Nat} {V : Value → Prop} : ∀ nw, UpI L arr k V I nw → ∃ u, V u ∧ (L, listOf (arr.push u) (k + 1)) ∈ nw := fun _ ⟨u, _, hu, _, e⟩ => ⟨u, hu, e ▸ .head _⟩
theorem up_memE {arr arr' : Array Value} {k k' : Nat} {V V' : Value → Prop} {L' : Addr} (h : ∀ nw, I nw → ∃ u, V' u ∧ (L', listOf (arr'.push u) k') ∈ nw) (hne : @Ne Nat L' L) : ∀ nw, UpI L arr k V I nw → ∃ u, V' u ∧ (L', listOf (arr'.push u) k') ∈ nw := fun _ ⟨_, nw0, _, i, e⟩ => (h nw0 i).imp fun _ q => ⟨q.1, e ▸ mem_up q.2 hne⟩
theorem ei_titem {ea : PySem.Expr} {p1 p2 : Pos} {k : Int} {kk : Tok} {a : Addr} {V : Value → Prop} (ha : Ei c env l I ea (isR a) I1) (hm : ∀ nw, I1 nw → ∃ vs n v, (a, tupO (List.toArray vs) n) ∈ nw ∧ vs[k.toNat]? = some v ∧ V v) (k0 : 0 ≤ k) (hk : k < 1000) (hs : ∀ t, subscripted (.Constant (.int k) kk p1) false (.ref a) (.int k t) = operate [.ref a, .int k t] (getItem (.ref a) (.int k t))) : Ei c env l I (.Subscript ea (.Constant (.int k) kk p1) p2) V I1 := by
  with_unfolding_all
    exact fun m s news Q E fo F N i ret =>
      Subscript_ (ha m s news _ E fo F N i fun u n0 h0 tk0 F0 N0 j0 => wpAny_Constant_int (by
        obtain rfl : u = .ref a := j0.1
        obtain ⟨vs, n, v, hm, hx, hV⟩ := hm _ j0.2
        refine item_tupleT (News.isTup N0 hm) (Int.le_trans (by decide : (-(2 ^ 63) : Int) ≤ 0) k0) (Int.lt_trans hk (by decide)) (seqIndex_of k0 (by have := (List.getElem?_eq_some_iff.mp hx).1; omega)) hx (ret v n0 h0 _ F0 N0 ⟨hV, j0.2⟩) (hs _)))
theorem sr_ifB {t : PySem.Expr} {body els ss : List Stmt} {p : Pos} {β : Bool} {R : Flow → (Str → Option Value) → Led → Prop} (ht : Et c c.env l I t β I1) (hb : Sf c I1 l (bif β then body else els) l' I2) (hs : Sx c I2 l' ss R) : Sx c I l (.If t body els p :: ss) R := by
  with_unfolding_all
    exact fun m s news Q fo F N i ret =>
      wpAny_execs_cons (wpAny_If (ht m s news _ _ fo F N i fun n1 h' tk' F' N' i1 => by
        have x := hb m { s with heap := h', toks := tk' } n1 (fun f s' => match f with | .next => wpAny (model PP w) c.A (execs ss c.env) Q (fun _ _ => False) s' | f => Q f s') fo F' N' i1 fun f n2 h2 m2 tk2 F2 N2 hf => by
          obtain ⟨e, fo2, i2⟩ := hf
          subst e
          exact hs m2 _ n2 Q fo2 F2 N2 i2 ret
        cases β with
        | true => exact x
        | false => exact x))
theorem ei_lenT {a : PySem.Expr} {p1 p2 : Pos} {k : Nat} (hf : Ei c env l I (.Name (Str.ofString "len") p1) (fun u => u = .builtin "len") I) (hu : unstarred a = true) (ha : Ei c env l I a (isR L) I1) (hm : ∀ nw, I1 nw → ∃ arr e, (L, tupO arr e) ∈ nw ∧ arr.size = k) (hk : k < 2 ^ 62) : Ei c env l I (.Call (.Name (Str.ofString "len") p1) [a] [] p2) (isI (k : Nat)) I1 :=
  ei_builtin hf (Bool.and_eq_true_iff.mpr ⟨hu, rfl⟩) (eil_cons hu ha eil_nil) (fun vs s m news Q E hA F N i ret => by
    obtain ⟨u1, e0, e1⟩ := alls1 hA
    obtain rfl : u1 = .ref L := e1
    subst e0
    obtain ⟨arr, e, hm2, hz⟩ := hm _ i
    subst hz
    exact PyProof.Rows.len_tuple (News.isTup N hm2) (Int.ofNat_lt.mpr (Nat.lt_trans hk (by decide) : arr.size < 2 ^ 63)) (ret _ s.heap _ F N ⟨_, rfl⟩)) fun h => Call_ h
theorem ei_append {ea ev : PySem.Expr} {p1 p2 : Pos} {arr : Array Value} {k : Nat} {V : Value → Prop} (ha : Ei c env l I ea (isR L) I) (hu : unstarred ev = true) (hv : Ei c env l I ev V I) (hm : ∀ nw, I nw → (L, listOf arr k) ∈ nw) (hz : arr.size ≤ 2000000) (he : Meth0 ea "append" p1 p2 [ev] env) : Ei c env l I (.Call (.Attribute ea "append" p1) [ev] [] p2) (fun u => u = .none) (UpI L arr k V I) := by
  with_unfolding_all
    exact fun m s news Q E fo F N i ret => by
      obtain ⟨pl, he⟩ := he
      refine MethodCall_ (ha m s news _ E fo F N i fun u n0 h0 tk0 F0 N0 i0 => ?_) he
      obtain ⟨hu0, i0⟩ := i0
      obtain rfl : u = .ref L := hu0
      refine listMethod_K N0 (hm _ i0) PySem.F.slot_list_append PySem.F.type_list_append ?_
      refine callWith_method1 (args_cons (hv m _ n0 _ E fo F0 N0 i0 fun v n1 h1 tk1 F1 N1 j1 => args_nil ?_) (star_of hu [])) (star_of hu []) rfl
      have z := N1 _ (hm _ j1.2)
      exact append_at (hsz := Nat.le_trans hz (by decide)) z.1 fun h' hs ho' => ret _ _ h' _ (F1.change hs z.2.1 z.2.2) (newsUp N1 (hm _ j1.2) hs ho') ⟨rfl, v, n1, j1.1, j1.2, rfl⟩
theorem sr_item {o i e : PySem.Expr} {p1 p2 : Pos} {ss : List Stmt} {U V W : Value → Prop} {R : Flow → (Str → Option Value) → Led → Prop} (he : Ei c c.env l I e V I) (ho : Ei c c.env l I o W I) (hi : Ei c c.env l I i U I)
    (hset : ∀ (u v d : Value) (s : Shared) (m : Str → Option Value) (nw : Led) (Q : Unit → Shared → Prop) (E : Value → Shared → Prop), V u → U v → W d → Fr c.g c.L s.heap m → News c.g c.L s.heap nw → I nw → (∀ h' nw' tk', Fr c.g c.L h' m → News c.g c.L h' nw' → I1 nw' → Q () { s with heap := h', toks := tk' }) → wpAny (model PP w) c.A (setItem d v u) Q E s)
    (hs : Sx c I1 l ss R) (hsw : swapsWith e (some (.Subscript o i p1)) p2.line c.env = pure false) : Sx c I l (.Assign [.Subscript o i p1] e p2 :: ss) R := by
  with_unfolding_all
    exact fun m s news Q fo F N i0 ret =>
      wpAny_execs_cons (wpAny_Assign_Subscript (he m s news _ _ fo F N i0 fun u n1 h1 tk1 F1 N1 j1 => ho m _ n1 _ _ fo F1 N1 j1.2 fun d n2 h2 tk2 F2 N2 j2 => hi m _ n2 _ _ fo F2 N2 j2.2 fun v n3 h3 tk3 F3 N3 j3 =>
        hset u v d _ m n3 _ _ j1.1 j3.1 j2.1 F3 N3 j3.2 fun h4 n4 tk4 F4 N4 j4 => hs m _ n4 Q fo F4 N4 j4 ret) hsw)
theorem sr_ifN {t : PySem.Expr} {body ss : List Stmt} {p : Pos} {R : Flow → (Str → Option Value) → Led → Prop} (ht : Et c c.env l I t true I1) (hb : Sf c I1 l body l' I2) (hs : Sx c I2 l' ss R) : Sx c I l (.If t body [] p :: ss) R := by
  with_unfolding_all
    exact fun m s news Q fo F N i ret =>
      wpAny_execs_cons (wpAny_If (ht m s news _ _ fo F N i fun n1 h' tk' F' N' i1 => hb m _ n1 _ fo F' N' i1 fun f n2 h2 m2 tk2 F2 N2 hf => by
        obtain ⟨e, fo2, i2⟩ := hf
        subst e
        exact hs m2 _ n2 Q fo2 F2 N2 i2 ret))
theorem sr_news {n : Led} {ss : List Stmt} {R : Flow → (Str → Option Value) → Led → Prop} (h : ∀ h0, News c.g c.L h0 n → Sx c (At n) l ss R) : Sx c (At n) l ss R := by with_unfolding_all exact fun m s news Q fo F N i ret => h s.heap (by rw [← show news = n from i]; exact N) m s news Q fo F N i ret
theorem ei_minmax {fn : Str} {id : String} {a b : PySem.Expr} {p1 p2 : Pos} {i j : Int} {f : Int → Int → Int} (hf : Ei c env l I (.Name fn p1) (fun u => u = .builtin id) I) (ha : unstarred a = true) (hb : unstarred b = true) (h1 : Ei c env l I a (isI i) I1) (h2 : Ei c env l I1 b (isI j) I2)
    (hs : ∀ (t1 t2 : Tok) (s : Shared) (m : Str → Option Value) (news : Led) (Q E : Value → Shared → Prop), Fr c.g c.L s.heap m → News c.g c.L s.heap news → (∀ r h' tk', Fr c.g c.L h' m → News c.g c.L h' news → isI (f i j) r → Q r { s with heap := h', toks := tk' }) → wpAny (model PP w) c.A (call (.builtin id) [.int i t1, .int j t2]) Q E s) :
    Ei c env l I (.Call (.Name fn p1) [a, b] [] p2) (isI (f i j)) I2 :=
  ei_builtin hf (Bool.and_eq_true_iff.mpr ⟨ha, Bool.and_eq_true_iff.mpr ⟨hb, rfl⟩⟩) (eil_cons ha h1 (eil_cons hb h2 eil_nil)) (fun vs s m news Q E hA F N _ ret => pt_elim (ps := [.I i, .I j]) (P := fun vs => wpAny (model PP w) c.A (call (.builtin id) vs) Q E s) (fun t1 t2 => hs t1 t2 s m news Q E F N ret) hA) fun h => Call_ h
theorem ei_min {a b : PySem.Expr} {p1 p2 : Pos} {i j : Int} (hf : Ei c env l I (.Name (Str.ofString "min") p1) (fun u => u = .builtin "min") I) (ha : unstarred a = true) (hb : unstarred b = true) (h1 : Ei c env l I a (isI i) I1) (h2 : Ei c env l I1 b (isI j) I2) : Ei c env l I (.Call (.Name (Str.ofString "min") p1) [a, b] [] p2) (isI (min i j)) I2 :=
  ei_minmax (f := min) hf ha hb h1 h2 fun t1 t2 s m news Q E F N ret => min_two_N rfl F N fun h' tk' F' N' => ret _ h' tk' F' N' ⟨_, by congr 1; omega⟩
theorem ei_max {a b : PySem.Expr} {p1 p2 : Pos} {i j : Int} (hf : Ei c env l I (.Name (Str.ofString "max") p1) (fun u => u = .builtin "max") I) (ha : unstarred a = true) (hb : unstarred b = true) (h1 : Ei c env l I a (isI i) I1) (h2 : Ei c env l I1 b (isI j) I2) : Ei c env l I (.Call (.Name (Str.ofString "max") p1) [a, b] [] p2) (isI (max i j)) I2 :=
  ei_minmax (f := max) hf ha hb h1 h2 fun t1 t2 s m news Q E F N ret => max_two_N rfl F N fun h' tk' F' N' => ret _ h' tk' F' N' ⟨_, by congr 1; omega⟩
end

section
variable {w : World} {S : Scope} {z : Nat} {c : Fx w S z} {env : Env} {l : FL} {I I1 I2 : Led → Prop} {a b : PySem.Expr} {p p2 : Pos} {i j : Int}
theorem ep_shl {k : Tok} (hb : Ei c env l I b (isI j) I1) (h0 : 0 ≤ j) (h1 : j ≤ 100000) : Ei c env l I (.BinOp (.Constant (.int 1) k p) .LShift b p2) (isI (2 ^ j.toNat)) I1 := ei_bin ei_int hb fun u v s m news Q E hu hv F N ret => by
  obtain ⟨t1, rfl⟩ := hu
  obtain ⟨t2, rfl⟩ := hv
  exact lshift_int h0 (by have : Builtin.Int.intBits 1 = 1 := by decide
                          omega) (ret _ _ ⟨_, by rw [Int.one_mul]⟩)
theorem ep_shlX (ha : Ei c env l I a (isI i) I1) (hb : Ei c env l I1 b (isI j) I2) (h0 : 0 ≤ j) (h1 : j ≤ 100000) (hi : Builtin.Int.intBits i ≤ 160) : Ei c env l I (.BinOp a .LShift b p) (isI (i * 2 ^ j.toNat)) I2 := ei_bin ha hb fun u v s m news Q E hu hv F N ret => by
  obtain ⟨t1, rfl⟩ := hu
  obtain ⟨t2, rfl⟩ := hv
  exact lshift_int h0 (by omega) (ret _ _ ⟨_, rfl⟩)
theorem ep_shr (ha : Ei c env l I a (isI i) I1) (hb : Ei c env l I1 b (isI j) I2) (h0 : 0 ≤ j) : Ei c env l I (.BinOp a .RShift b p) (isI (i / 2 ^ j.toNat)) I2 := ei_bin ha hb fun u v s m news Q E hu hv F N ret => by
  obtain ⟨t1, rfl⟩ := hu
  obtain ⟨t2, rfl⟩ := hv
  exact rshift_int h0 (ret _ _ ⟨_, by rw [Int.fdiv_eq_ediv_of_nonneg i (Int.le_of_lt (PySem.W.kbt_pos _))]⟩)
theorem ep_and (ha : Ei c env l I a (isI i) I1) (hb : Ei c env l I1 b (isI j) I2) : Ei c env l I (.BinOp a .BitAnd b p) (isI (Builtin.bitAnd i j)) I2 := ei_bin ha hb fun u v s m news Q E hu hv F N ret => by
  obtain ⟨t1, rfl⟩ := hu
  obtain ⟨t2, rfl⟩ := hv
  exact and_int (ret _ _ ⟨_, rfl⟩)
theorem ep_or (ha : Ei c env l I a (isI i) I1) (hb : Ei c env l I1 b (isI j) I2) : Ei c env l I (.BinOp a .BitOr b p) (isI (Builtin.bitOr i j)) I2 := ei_bin ha hb fun u v s m news Q E hu hv F N ret => by
  obtain ⟨t1, rfl⟩ := hu
  obtain ⟨t2, rfl⟩ := hv
  exact or_int (ret _ _ ⟨_, rfl⟩)
theorem ep_xor (ha : Ei c env l I a (isI i) I1) (hb : Ei c env l I1 b (isI j) I2) : Ei c env l I (.BinOp a .BitXor b p) (isI (Builtin.bitXor i j)) I2 := ei_bin ha hb fun u v s m news Q E hu hv F N ret => by
  obtain ⟨t1, rfl⟩ := hu
  obtain ⟨t2, rfl⟩ := hv
  exact xor_int (ret _ _ ⟨_, rfl⟩)
theorem ep_mulI (ha : Ei c env l I a (isI i) I1) (hb : Ei c env l I1 b (isI j) I2) (hm : IntMulOk i j) : Ei c env l I (.BinOp a .Mult b p) (isI (i * j)) I2 := ei_bin ha hb fun u v s m news Q E hu hv F N ret => by
  obtain ⟨t1, rfl⟩ := hu
  obtain ⟨t2, rfl⟩ := hv
  exact mul_int (ret _ _ ⟨_, rfl⟩) hm
theorem ep_div (ha : Ei c env l I a (isI i) I1) (hb : Ei c env l I1 b (isI j) I2) (h0 : 0 < j) (hl : j.natAbs.log2 < 9000) : Ei c env l I (.BinOp a .FloorDiv b p) (isI (i / j)) I2 := ei_bin ha hb fun u v s m news Q E hu hv F N ret => by
  obtain ⟨t1, rfl⟩ := hu
  obtain ⟨t2, rfl⟩ := hv
  exact floordiv_int (Int.ne_of_gt h0) (ret _ _ ⟨_, by rw [Int.fdiv_eq_ediv_of_nonneg i (Int.le_of_lt h0)]⟩) (Or.inl (PyProof.noPylong_of_log2 hl))
theorem ep_mod (ha : Ei c env l I a (isI i) I1) (hb : Ei c env l I1 b (isI j) I2) (h0 : 0 < j) : Ei c env l I (.BinOp a .Mod b p) (isI (i % j)) I2 := ei_bin ha hb fun u v s m news Q E hu hv F N ret => by
  obtain ⟨t1, rfl⟩ := hu
  obtain ⟨t2, rfl⟩ := hv
  exact mod_int (Int.ne_of_gt h0) (ret _ _ ⟨_, by rw [Int.fmod_eq_emod_of_nonneg i (Int.le_of_lt h0)]⟩)
theorem ep_neg (ha : Ei c env l I a (isI i) I1) : Ei c env l I (.UnaryOp .USub a p) (isI (-i)) I1 := by
  with_unfolding_all
    exact fun m s news Q E fo F N i0 ret =>
      UnaryOp_ (ha m s news _ E fo F N i0 fun u n1 h' tk' F' N' hu => by
        obtain ⟨⟨t1, rfl⟩, i1⟩ := hu
        exact neg_int (ret _ n1 h' _ F' N' ⟨⟨_, rfl⟩, i1⟩))
theorem tp_in2 {x y1 y2 : Str} {k1 k2 k3 : Nat} {p3 p4 p5 : Pos} (ha : Ei c env l I a (isS x) I) : Et c env l I (.Compare a [.In] [.Tuple [.Constant (.str y1) k1 p3, .Constant (.str y2) k2 p4] k3 p5] p) ([y1, y2].any (· == x)) I := by
  with_unfolding_all
    exact fun m s news Q E fo F N i ret =>
      wpAny_isTrue_Compare1 (ha m s news _ E fo F N i fun u n1 h' tk' F' N' hu => Tuple_ (args_cons (Constant_str (args_cons (Constant_str (args_nil (by
        obtain ⟨⟨t1, rfl⟩, i1⟩ := hu
        exact kup_newTuple F' N' (fun D h2 F2 N2 _ => in_tuple_strs (ys := [y1, y2]) (News.isTup N2 (.head _)) (.cons _ _ (.cons _ _ .nil)) (wpAny_truthy_bool (ret n1 h2 _ F2 (fun q hq => N2 q (.tail _ hq)) i1))) (by show 2 ≤ sizeLine; decide)))))))) rfl
end
theorem spec_mask (w : World) {news : Led} {n : Int} {t : Tok} (h0 : 0 ≤ n) (h1 : n ≤ 200) : Spec w 142 1 news [.int n t] (fun r news' => news' = news ∧ ∃ t', r = .int (2 ^ n.toNat - 1) t') :=
  spec_pure (V := isI (2 ^ n.toNat - 1)) (o := o142) (binds := [(Str.ofString "width", Value.int n t)]) (by kernel_rfl) rfl (by kernel_rfl) rfl (locs rfl) rfl rfl rfl (by decide) fun c =>
    si_ret (ei_sub (ep_shl (ei_name rfl) h0 (by omega)) ei_int)
theorem pow_mono2 {a b : Nat} (h : a ≤ b) : (2 : Nat) ^ a ≤ 2 ^ b := Nat.pow_le_pow_right (by decide) h
theorem bits140 {x n : Int} (h0 : 0 ≤ x) (h1 : x < 2 ^ n.toNat) (hn : n ≤ 160) : Builtin.Int.intBits x ≤ 160 := by
  refine intBits_le_iff.mpr ?_
  have h2 : (2 : Nat) ^ n.toNat ≤ 2 ^ 160 := pow_mono2 (by omega)
  have h3 : ((2 ^ n.toNat : Nat) : Int) = 2 ^ n.toNat := by simp
  have h4 : (x.natAbs : Int) < ((2 ^ n.toNat : Nat) : Int) := by rw [h3]; omega
  omega
noncomputable def two (op : Str) (x y n : Int) : Int :=
  if op = Str.ofString "bvand" then Builtin.bitAnd x y
  else if op = Str.ofString "bvor" then Builtin.bitOr x y
  else if op = Str.ofString "bvxor" then Builtin.bitXor x y
  else if op = Str.ofString "bvadd" then (x + y) % 2 ^ n.toNat
  else if op = Str.ofString "bvsub" then (x - y) % 2 ^ n.toNat
  else if op = Str.ofString "bvmul" then (x * y) % 2 ^ n.toNat
  else if op = Str.ofString "bvshl" then (if n ≤ y then 0 else (x * 2 ^ y.toNat) % 2 ^ n.toNat)
  else if op = Str.ofString "bvlshr" then (if n ≤ y then 0 else x / 2 ^ y.toNat)
  else if op = Str.ofString "bvudiv" then (if y = 0 then 2 ^ n.toNat - 1 else x / y)
  else (if y = 0 then x else x % y)

theorem two_bvand (x y n : Int) : two (Str.ofString "bvand") x y n = Builtin.bitAnd x y := by unfold two; rw [if_pos rfl]
theorem two_bvor (x y n : Int) : two (Str.ofString "bvor") x y n = Builtin.bitOr x y := by unfold two; rw [if_neg (by decide), if_pos rfl]
theorem two_bvxor (x y n : Int) : two (Str.ofString "bvxor") x y n = Builtin.bitXor x y := by unfold two; rw [if_neg (by decide), if_neg (by decide), if_pos rfl]
theorem two_bvadd (x y n : Int) : two (Str.ofString "bvadd") x y n = (x + y) % 2 ^ n.toNat := by unfold two; rw [if_neg (by decide), if_neg (by decide), if_neg (by decide), if_pos rfl]
theorem two_bvsub (x y n : Int) : two (Str.ofString "bvsub") x y n = (x - y) % 2 ^ n.toNat := by unfold two; rw [if_neg (by decide), if_neg (by decide), if_neg (by decide), if_neg (by decide), if_pos rfl]
theorem two_bvmul (x y n : Int) : two (Str.ofString "bvmul") x y n = (x * y) % 2 ^ n.toNat := by unfold two; rw [if_neg (by decide), if_neg (by decide), if_neg (by decide), if_neg (by decide), if_neg (by decide), if_pos rfl]
theorem two_bvshl (x y n : Int) : two (Str.ofString "bvshl") x y n = (if n ≤ y then 0 else (x * 2 ^ y.toNat) % 2 ^ n.toNat) := by unfold two; rw [if_neg (by decide), if_neg (by decide), if_neg (by decide), if_neg (by decide), if_neg (by decide), if_neg (by decide), if_pos rfl]
theorem two_bvlshr (x y n : Int) : two (Str.ofString "bvlshr") x y n = (if n ≤ y then 0 else x / 2 ^ y.toNat) := by unfold two; rw [if_neg (by decide), if_neg (by decide), if_neg (by decide), if_neg (by decide), if_neg (by decide), if_neg (by decide), if_neg (by decide), if_pos rfl]
theorem two_bvudiv (x y n : Int) : two (Str.ofString "bvudiv") x y n = (if y = 0 then 2 ^ n.toNat - 1 else x / y) := by unfold two; rw [if_neg (by decide), if_neg (by decide), if_neg (by decide), if_neg (by decide), if_neg (by decide), if_neg (by decide), if_neg (by decide), if_neg (by decide), if_pos rfl]
theorem two_bvurem (x y n : Int) : two (Str.ofString "bvurem") x y n = (if y = 0 then x else x % y) := by unfold two; rw [if_neg (by decide), if_neg (by decide), if_neg (by decide), if_neg (by decide), if_neg (by decide), if_neg (by decide), if_neg (by decide), if_neg (by decide), if_neg (by decide)]

theorem log2_lt (x : Int) (h0 : 0 ≤ x) {n : Int} (h1 : x < 2 ^ n.toNat) (hn : n ≤ 160) : x.natAbs.log2 < 9000 := by
  have h := bits140 h0 h1 hn
  rw [intBits_le_iff] at h
  by_cases z : x.natAbs = 0
  · rw [z]; decide +kernel
  · exact (Nat.log2_lt z).mpr (Nat.lt_of_lt_of_le h (pow_mono2 (by decide)))

theorem ep_mask {w : World} {S : Scope} {z : Nat} {c : Fx w S z} {l : FL} {I I1 : Led → Prop} {e : PySem.Expr} {p1 p2 : Pos} {n : Int} (hz : Nat.ble 1 z = true) (hx : c.env.kindOf (Str.ofString "mask_of") = some .globalImplicit) (hu : unstarred e = true) (he : Ei c c.env l I e (isI n) I1) (h0 : 0 ≤ n) (h1 : n ≤ 200) : Ei c c.env l I (.Call (.Name (Str.ofString "mask_of") p1) [e] [] p2) (isI (2 ^ n.toNat - 1)) I1 :=
  ei_callQ [.I _] (f := 142) (sz := 1) (ei_glob hx (by decide) (by kernel_rfl)) (by kernel_rfl) hz (Bool.and_eq_true_iff.mpr ⟨hu, rfl⟩) (eil_cons hu he eil_nil) fun nw _ => spec_mask w h0 h1
theorem spec_div (w : World) {news : Led} {x y n : Int} {t1 t2 t3 : Tok} (h0 : 1 ≤ n) (h1 : n ≤ 160) (hx0 : 0 ≤ x) (hx1 : x < 2 ^ n.toNat) (hy0 : 0 ≤ y) (hy1 : y < 2 ^ n.toNat) :
   Spec w 163 3 news [.int x t1, .int y t2, .int n t3] (fun r news' => news' = news ∧ ∃ t', r = .int (if y = 0 then 2 ^ n.toNat - 1 else x / y) t') :=
  spec_pure (V := isI (if y = 0 then 2 ^ n.toNat - 1 else x / y)) (o := o163) (binds := [(Str.ofString "x", Value.int x t1), (Str.ofString "y", .int y t2), (Str.ofString "width", .int n t3)]) (by kernel_rfl) rfl (by kernel_rfl) rfl (locs rfl) rfl rfl rfl (by decide) fun c =>
    si_ret (ei_if (ti_eqI (ei_name rfl) ei_int)
      (fun h => ei_eq (ep_mask rfl (by kernel_rfl) rfl (ei_name rfl) (by omega) (by omega)) (by rw [if_pos (eq_of_beq h)]))
      (fun h => have hy := beq_eq_false_iff_ne.mp h
        ei_eq (ep_div (ei_name rfl) (ei_name rfl) (by omega) (log2_lt y hy0 hy1 h1)) (by rw [if_neg hy])))
theorem spec_rest (w : World) {news : Led} {x y : Int} {t1 t2 : Tok} (hx0 : 0 ≤ x) (hy0 : 0 ≤ y) :
   Spec w 170 3 news [.int x t1, .int y t2] (fun r news' => news' = news ∧ ∃ t', r = .int (if y = 0 then x else x % y) t') :=
  spec_pure (V := isI (if y = 0 then x else x % y)) (o := o170) (binds := [(Str.ofString "x", Value.int x t1), (Str.ofString "y", .int y t2)]) (by kernel_rfl) rfl (by kernel_rfl) rfl (locs rfl) rfl rfl rfl (by decide) fun c =>
    si_ret (ei_if (ti_eqI (ei_name rfl) ei_int)
      (fun h => ei_eq (ei_name rfl) (by rw [if_pos (eq_of_beq h)]))
      (fun h => have hy := beq_eq_false_iff_ne.mp h
        ei_eq (ep_mod (ei_name rfl) (ei_name rfl) (by omega)) (by rw [if_neg hy])))
theorem spec_shift (w : World) {news : Led} {op : Str} {x y n : Int} {t1 t2 t3 t4 : Tok} (h0 : 1 ≤ n) (h1 : n ≤ 160) (hx0 : 0 ≤ x) (hx1 : x < 2 ^ n.toNat) (hy0 : 0 ≤ y) (hop : op = Str.ofString "bvshl" ∨ op = Str.ofString "bvlshr") :
   Spec w 177 3 news [.str op t4, .int x t1, .int y t2, .int n t3] (fun r news' => news' = news ∧ ∃ t', r = .int (two op x y n) t') :=
  spec_pure (V := isI (two op x y n)) (o := o177) (binds := [(Str.ofString "op", Value.str op t4), (Str.ofString "x", .int x t1), (Str.ofString "y", .int y t2), (Str.ofString "width", .int n t3)]) (by kernel_rfl) rfl (by kernel_rfl) rfl (locs rfl) rfl rfl rfl (by decide) fun c =>
    sr_if (ti_geI (ei_name rfl) (ei_name rfl)) (fun h => si_ret (ei_eq ei_int (by
        have hy := of_decide_eq_true h
        rcases hop with rfl | rfl
        · rw [two_bvshl, if_pos hy]
        · rw [two_bvlshr, if_pos hy]))) fun h => si_ret (by
      have hy := of_decide_eq_false h
      refine ei_if (ti_eqS (ei_name rfl) ei_str) (fun q => ?_) fun q => ?_
      · obtain rfl := eq_of_beq q
        exact ei_eq (ep_and (ep_shlX (ei_name rfl) (ei_name rfl) hy0 (by omega) (bits140 hx0 hx1 h1)) (ep_mask rfl (by kernel_rfl) rfl (ei_name rfl) (by omega) (by omega))) (by rw [two_bvshl, if_neg hy, PySem.W.kbt_mask])
      · obtain rfl := hop.resolve_left (beq_eq_false_iff_ne.mp q)
        exact ei_eq (ep_shr (ei_name rfl) (ei_name rfl) hy0) (by rw [two_bvlshr, if_neg hy]))
theorem spec_two (w : World) {news : Led} {op : Str} {x y n : Int} {t1 t2 t3 t4 : Tok} (h0 : 1 ≤ n) (h1 : n ≤ 160) (hx0 : 0 ≤ x) (hx1 : x < 2 ^ n.toNat) (hy0 : 0 ≤ y) (hy1 : y < 2 ^ n.toNat) (hop : op = Str.ofString "bvand" ∨ op = Str.ofString "bvor" ∨ op = Str.ofString "bvxor" ∨ op = Str.ofString "bvadd" ∨ op = Str.ofString "bvsub" ∨ op = Str.ofString "bvmul" ∨ op = Str.ofString "bvshl" ∨ op = Str.ofString "bvlshr" ∨ op = Str.ofString "bvudiv" ∨ op = Str.ofString "bvurem") :
   Spec w 184 5 news [.str op t1, .int x t2, .int y t3, .int n t4] (fun r news' => news' = news ∧ ∃ t', r = .int (two op x y n) t') := by
  have hbx := bits140 hx0 hx1 h1
  have hby := bits140 hy0 hy1 h1
  refine spec_pure (V := isI (two op x y n)) (o := o184) (binds := [(Str.ofString "op", Value.str op t1), (Str.ofString "x", .int x t2), (Str.ofString "y", .int y t3), (Str.ofString "width", .int n t4)]) (by kernel_rfl) rfl (by kernel_rfl) rfl (locs rfl) rfl rfl rfl (by decide) fun c => ?_
  refine sr_if (ti_eqS (ei_name rfl) ei_str) (fun q => si_ret (by
    obtain rfl := eq_of_beq q
    exact ei_eq (ep_and (ei_name rfl) (ei_name rfl)) (by rw [two_bvand]))) fun q => ?_
  replace hop := hop.resolve_left (beq_eq_false_iff_ne.mp q)
  refine sr_if (ti_eqS (ei_name rfl) ei_str) (fun q => si_ret (by
    obtain rfl := eq_of_beq q
    exact ei_eq (ep_or (ei_name rfl) (ei_name rfl)) (by rw [two_bvor]))) fun q => ?_
  replace hop := hop.resolve_left (beq_eq_false_iff_ne.mp q)
  refine sr_if (ti_eqS (ei_name rfl) ei_str) (fun q => si_ret (by
    obtain rfl := eq_of_beq q
    exact ei_eq (ep_xor (ei_name rfl) (ei_name rfl)) (by rw [two_bvxor]))) fun q => ?_
  replace hop := hop.resolve_left (beq_eq_false_iff_ne.mp q)
  refine sr_if (ti_eqS (ei_name rfl) ei_str) (fun q => si_ret (by
    obtain rfl := eq_of_beq q
    exact ei_eq (ep_and (ei_add (ei_name rfl) (ei_name rfl)) (ep_mask rfl (by kernel_rfl) rfl (ei_name rfl) (by omega) (by omega))) (by rw [two_bvadd, PySem.W.kbt_mask]))) fun q => ?_
  replace hop := hop.resolve_left (beq_eq_false_iff_ne.mp q)
  refine sr_if (ti_eqS (ei_name rfl) ei_str) (fun q => si_ret (by
    obtain rfl := eq_of_beq q
    exact ei_eq (ep_and (ei_sub (ei_name rfl) (ei_name rfl)) (ep_mask rfl (by kernel_rfl) rfl (ei_name rfl) (by omega) (by omega))) (by rw [two_bvsub, PySem.W.kbt_mask]))) fun q => ?_
  replace hop := hop.resolve_left (beq_eq_false_iff_ne.mp q)
  refine sr_if (ti_eqS (ei_name rfl) ei_str) (fun q => si_ret (by
    obtain rfl := eq_of_beq q
    exact ei_eq (ep_and (ep_mulI (ei_name rfl) (ei_name rfl) (PySem.IntMulOk.of_le hbx hby (by decide))) (ep_mask rfl (by kernel_rfl) rfl (ei_name rfl) (by omega) (by omega))) (by rw [two_bvmul, PySem.W.kbt_mask]))) fun q => ?_
  replace hop := hop.resolve_left (beq_eq_false_iff_ne.mp q)
  refine sr_if (tp_in2 (ei_name rfl)) (fun q => si_ret ?_) fun q => ?_
  · have hop : op = Str.ofString "bvshl" ∨ op = Str.ofString "bvlshr" := by
      simp only [List.any_cons, List.any_nil, Bool.or_false, Bool.or_eq_true, beq_iff_eq] at q
      exact q.imp Eq.symm Eq.symm
    exact ei_callQ [.S _, .I _, .I _, .I _] (f := 177) (sz := 3) ei_glob (by kernel_rfl) rfl rfl (eil_cons rfl (ei_name rfl) (eil_cons rfl (ei_name rfl) (eil_cons rfl (ei_name rfl) (eil_cons rfl (ei_name rfl) eil_nil)))) fun nw _ _ _ _ => spec_shift w h0 h1 hx0 hx1 hy0 hop
  simp only [List.any_cons, List.any_nil, Bool.or_false, Bool.or_eq_false_iff, beq_eq_false_iff_ne] at q
  replace hop := (hop.resolve_left (Ne.symm q.1)).resolve_left (Ne.symm q.2)
  refine sr_if (ti_eqS (ei_name rfl) ei_str) (fun q => si_ret ?_) fun q => ?_
  · obtain rfl := eq_of_beq q
    exact ei_eq (ei_callQ [.I _, .I _, .I _] (f := 163) (sz := 3) ei_glob (by kernel_rfl) rfl rfl (eil_cons rfl (ei_name rfl) (eil_cons rfl (ei_name rfl) (eil_cons rfl (ei_name rfl) eil_nil))) fun nw _ _ _ => spec_div w h0 h1 hx0 hx1 hy0 hy1) (by rw [two_bvudiv])
  obtain rfl := hop.resolve_left (beq_eq_false_iff_ne.mp q)
  refine sr_if (ti_eqS (ei_name rfl) ei_str) (fun q => si_ret ?_) fun q => absurd rfl (beq_eq_false_iff_ne.mp q)
  exact ei_eq (ei_callQ [.I _, .I _] (f := 170) (sz := 3) ei_glob (by kernel_rfl) rfl rfl (eil_cons rfl (ei_name rfl) (eil_cons rfl (ei_name rfl) eil_nil)) fun nw _ _ => spec_rest w hx0 hy0) (by rw [two_bvurem])
theorem rowsVals1 : True := by
  k_with "call ref" => (k_here; (with_reducible show wpAny _ _ (call (Value.ref 142) _) _ _ _); k_dflt (refine' use_specR (by k_asm) (by k_asm) (by k_asm) (by k_asm) (by k_asm) (by first | exact rfl | assumption) (by ktr_room) (by ktr_units) (spec_mask _ (by omega) (by omega)) ?_; k_whole; intro r9 news9 h9 tk9 F9 N9 R9; obtain ⟨hn9, t9, hr9⟩ := R9; subst hn9; subst hr9; (try dsimp only); (try k_fold)))
  trivial
theorem rowsValsM1 : True := by
  k_with "mf" => (exact PySem.IntMulOk.of_le (by assumption) (by assumption) (by decide))
  trivial

theorem rowsVals2 : True := by
  k_with "binaryOp FloorDiv int int" => (k_here; k_dflt (refine' floordiv_int (by omega) ?_ (Or.inl (PyProof.noPylong_of_log2 (by assumption))); k_whole))
  k_with "binaryOp LShift int int" => (k_here; k_dflt (refine' lshift_int (by omega) (by (rename Builtin.Int.intBits _ ≤ 160 => hb9; omega)) ?_; k_whole))
  trivial


noncomputable def one (op : Str) (x n : Int) : Int := if op = Str.ofString "bvnot" then 2 ^ n.toNat - 1 - x else (-x) % 2 ^ n.toNat
theorem one_bvnot (x n : Int) : one (Str.ofString "bvnot") x n = 2 ^ n.toNat - 1 - x := by unfold one; rw [if_pos rfl]
theorem one_bvneg (x n : Int) : one (Str.ofString "bvneg") x n = (-x) % 2 ^ n.toNat := by unfold one; rw [if_neg (by decide)]

theorem spec_one (w : World) {news : Led} {op : Str} {x n : Int} {t1 t2 t3 : Tok} (h0 : 1 ≤ n) (h1 : n ≤ 160) (hop : op = Str.ofString "bvnot" ∨ op = Str.ofString "bvneg") :
   Spec w 156 4 news [.str op t1, .int x t2, .int n t3] (fun r news' => news' = news ∧ ∃ t', r = .int (one op x n) t') :=
  spec_pure (V := isI (one op x n)) (o := o156) (binds := [(Str.ofString "op", Value.str op t1), (Str.ofString "x", .int x t2), (Str.ofString "width", .int n t3)]) (by kernel_rfl) rfl (by kernel_rfl) rfl (locs rfl) rfl rfl rfl (by decide) fun c =>
    sr_if (ti_eqS (ei_name rfl) ei_str) (fun q => si_ret (by
        obtain rfl := eq_of_beq q
        exact ei_eq (ei_sub (ep_mask rfl (by kernel_rfl) rfl (ei_name rfl) (by omega) (by omega)) (ei_name rfl)) (by rw [one_bvnot]))) fun q => by
      obtain rfl := hop.resolve_left (beq_eq_false_iff_ne.mp q)
      exact sr_if (ti_eqS (ei_name rfl) ei_str) (fun q => si_ret (ei_eq (ep_and (ep_neg (ei_name rfl)) (ep_mask rfl (by kernel_rfl) rfl (ei_name rfl) (by omega) (by omega))) (by rw [one_bvneg, PySem.W.kbt_mask]))) fun q => absurd rfl (beq_eq_false_iff_ne.mp q)
theorem spec_extr (w : World) {news : Led} {x high low : Int} {t1 t2 t3 : Tok} (h0 : 0 ≤ low) (h1 : low ≤ high) (h2 : high ≤ 150) :
   Spec w 191 4 news [.int x t1, .int high t2, .int low t3] (fun r news' => news' = news ∧ ∃ t', r = .int ((x / 2 ^ low.toNat) % 2 ^ (high - low + 1).toNat) t') :=
  spec_pure (V := isI ((x / 2 ^ low.toNat) % 2 ^ (high - low + 1).toNat)) (o := o191) (binds := [(Str.ofString "x", Value.int x t1), (Str.ofString "high", .int high t2), (Str.ofString "low", .int low t3)]) (by kernel_rfl) rfl (by kernel_rfl) rfl (locs rfl) rfl rfl rfl (by decide) fun c =>
    si_ret (ei_eq (ep_and (ep_shr (ei_name rfl) (ei_name rfl) h0) (ep_mask rfl (by kernel_rfl) rfl (ei_add (ei_sub (ei_name rfl) (ei_name rfl)) ei_int) (by omega) (by omega))) (by rw [PySem.W.kbt_mask]))
theorem bitAnd_zero (x : Int) : Builtin.bitAnd x 0 = 0 := by
  have h := PySem.W.kbt_mask x 0
  simpa using h
theorem bitAnd_high (k : Nat) : ∀ (x y : Int), 0 ≤ y → y < 2 ^ k → Builtin.bitAnd (x * 2 ^ k) y = 0 := by
  induction k with
  | zero =>
    intro x y h0 h1
    have : y = 0 := by simp at h1; omega
    subst this
    exact bitAnd_zero _
  | succ k ih =>
    intro x y h0 h1
    rw [PySem.W.kbt_halves]
    have e1 : x * 2 ^ (k + 1) = 2 * (x * 2 ^ k) := by rw [Int.pow_succ]; rw [Int.mul_comm (2 ^ k) 2, ← Int.mul_assoc, ← Int.mul_assoc, Int.mul_comm x 2]
    have e2 : (x * 2 ^ (k + 1)) / 2 = x * 2 ^ k := by omega
    have e3 : (x * 2 ^ (k + 1)) % 2 = 0 := by omega
    have h1' : y < 2 ^ k * 2 := by rw [← Int.pow_succ]; exact h1
    rw [e2, e3, ih x (y / 2) (by omega) (by omega)]
    simp
theorem bitOr_high (k : Nat) (x y : Int) (h0 : 0 ≤ y) (h1 : y < 2 ^ k) : Builtin.bitOr (x * 2 ^ k) y = x * 2 ^ k + y := by
  rw [bitOr_and, bitAnd_high k x y h0 h1]; omega

theorem spec_conc (w : World) {news : Led} {x y n : Int} {t1 t2 t3 : Tok} (h0 : 0 ≤ n) (h1 : n ≤ 150) (hbx : Builtin.Int.intBits x ≤ 160) (hy0 : 0 ≤ y) (hy1 : y < 2 ^ n.toNat) :
   Spec w 198 4 news [.int x t1, .int y t2, .int n t3] (fun r news' => news' = news ∧ ∃ t', r = .int (x * 2 ^ n.toNat + y) t') :=
  spec_pure (V := isI (x * 2 ^ n.toNat + y)) (o := o198) (binds := [(Str.ofString "x", Value.int x t1), (Str.ofString "y", .int y t2), (Str.ofString "width_of_y", .int n t3)]) (by kernel_rfl) rfl (by kernel_rfl) rfl (locs rfl) rfl rfl rfl (by decide) fun c =>
    si_ret (ei_eq (ep_or (ep_shlX (ei_name rfl) (ei_name rfl) h0 (by omega) hbx) (ei_name rfl)) (by rw [bitOr_high _ _ _ hy0 hy1]))
noncomputable def signed (x n : Int) : Int := if x / 2 ^ (n - 1).toNat = 1 then x - 2 ^ n.toNat else x
theorem spec_signed (w : World) {news : Led} {x n : Int} {t1 t2 : Tok} (h0 : 1 ≤ n) (h1 : n ≤ 150) :
   Spec w 149 4 news [.int x t1, .int n t2] (fun r news' => news' = news ∧ ∃ t', r = .int (signed x n) t') :=
  spec_pure (V := isI (signed x n)) (o := o149) (binds := [(Str.ofString "x", Value.int x t1), (Str.ofString "width", .int n t2)]) (by kernel_rfl) rfl (by kernel_rfl) rfl (locs rfl) rfl rfl rfl (by decide) fun c =>
    si_ret (ei_if (ti_eqI (ep_shr (ei_name rfl) (ei_sub (ei_name rfl) ei_int) (by omega)) ei_int)
      (fun h => ei_eq (ei_sub (ei_name rfl) (ep_shl (ei_name rfl) (by omega) (by omega))) (by unfold signed; rw [if_pos (eq_of_beq h)]))
      (fun h => ei_eq (ei_name rfl) (by unfold signed; rw [if_neg (beq_eq_false_iff_ne.mp h)])))
theorem spec_sext (w : World) {news : Led} {x n many : Int} {t1 t2 t3 : Tok} (h0 : 1 ≤ n) (h1 : n ≤ 150) (h2 : 0 ≤ many) (h3 : n + many ≤ 160) :
   Spec w 205 6 news [.int x t1, .int n t2, .int many t3] (fun r news' => news' = news ∧ ∃ t', r = .int (signed x n % 2 ^ (n + many).toNat) t') :=
  spec_pure (V := isI (signed x n % 2 ^ (n + many).toNat)) (o := o205) (binds := [(Str.ofString "x", Value.int x t1), (Str.ofString "width", .int n t2), (Str.ofString "many", .int many t3)]) (by kernel_rfl) rfl (by kernel_rfl) rfl (locs rfl) rfl rfl rfl (by decide) fun c =>
    si_ret (ei_eq (ep_and (ei_callQ [.I _, .I _] (f := 149) (sz := 4) ei_glob (by kernel_rfl) rfl rfl (eil_cons rfl (ei_name rfl) (eil_cons rfl (ei_name rfl) eil_nil)) fun nw _ _ => spec_signed w h0 h1) (ep_mask rfl (by kernel_rfl) rfl (ei_add (ei_name rfl) (ei_name rfl)) (by omega) (by omega))) (by rw [PySem.W.kbt_mask]))
theorem rowsVals21 : True := by
  k_with "eval Call" => (k_here; (with_reducible show wpAny _ (ktrTop _ _ _ _ _ _ _ _ _ _) _ _ _ _); k_dflt (refine Call_ ?_))
  k_with "call ref" => (k_here; (with_reducible show wpAny _ _ (call (Value.ref 184) _) _ _ _); k_dflt (refine' use_specR (by k_asm) (by k_asm) (by k_asm) (by k_asm) (by k_asm) (by first | exact rfl | assumption) (by ktr_room) (by ktr_units) (spec_two _ (by omega) (by omega) (by omega) (by assumption) (by omega) (by assumption) (by first | with_reducible assumption | simp)) ?_; k_whole; intro r9 news9 h9 tk9 F9 N9 R9; obtain ⟨hn9, t9, hr9⟩ := R9; subst hn9; subst hr9; (try dsimp only); (try k_fold)))
  trivial
theorem rowsVals22 : True := by
  k_with "call ref" => (k_here; (with_reducible show wpAny _ _ (call (Value.ref 149) _) _ _ _); k_dflt (refine' use_specR (by k_asm) (by k_asm) (by k_asm) (by k_asm) (by k_asm) (by first | exact rfl | assumption) (by ktr_room) (by ktr_units) (spec_signed _ (by omega) (by omega)) ?_; k_whole; intro r9 news9 h9 tk9 F9 N9 R9; obtain ⟨hn9, t9, hr9⟩ := R9; subst hn9; subst hr9; (try dsimp only); (try k_fold)))
  trivial
theorem rowsVals23 : True := by
  k_with "call ref" => (k_here; (with_reducible show wpAny _ _ (call (Value.ref 156) _) _ _ _); k_dflt (refine' use_specR (by k_asm) (by k_asm) (by k_asm) (by k_asm) (by k_asm) (by first | exact rfl | assumption) (by ktr_room) (by ktr_units) (spec_one _ (by omega) (by omega) (by first | with_reducible assumption | exact Or.inl rfl | exact Or.inr rfl)) ?_; k_whole; intro r9 news9 h9 tk9 F9 N9 R9; obtain ⟨hn9, t9, hr9⟩ := R9; subst hn9; subst hr9; (try dsimp only); (try k_fold)))
  k_with "call ref" => (k_here; (with_reducible show wpAny _ _ (call (Value.ref 191) _) _ _ _); k_dflt (refine' use_specR (by k_asm) (by k_asm) (by k_asm) (by k_asm) (by k_asm) (by first | exact rfl | assumption) (by ktr_room) (by ktr_units) (spec_extr _ (by omega) (by omega) (by omega)) ?_; k_whole; intro r9 news9 h9 tk9 F9 N9 R9; obtain ⟨hn9, t9, hr9⟩ := R9; subst hn9; subst hr9; (try dsimp only); (try k_fold)))
  k_with "call ref" => (k_here; (with_reducible show wpAny _ _ (call (Value.ref 198) _) _ _ _); k_dflt (refine' use_specR (by k_asm) (by k_asm) (by k_asm) (by k_asm) (by k_asm) (by first | exact rfl | assumption) (by ktr_room) (by ktr_units) (spec_conc _ (by omega) (by omega) (by assumption) (by omega) (by assumption)) ?_; k_whole; intro r9 news9 h9 tk9 F9 N9 R9; obtain ⟨hn9, t9, hr9⟩ := R9; subst hn9; subst hr9; (try dsimp only); (try k_fold)))
  k_with "call ref" => (k_here; (with_reducible show wpAny _ _ (call (Value.ref 205) _) _ _ _); k_dflt (refine' use_specR (by k_asm) (by k_asm) (by k_asm) (by k_asm) (by k_asm) (by first | exact rfl | assumption) (by ktr_room) (by ktr_units) (spec_sext _ (by omega) (by omega) (by omega) (by omega)) ?_; k_whole; intro r9 news9 h9 tk9 F9 N9 R9; obtain ⟨hn9, t9, hr9⟩ := R9; subst hn9; subst hr9; (try dsimp only); (try k_fold)))
  trivial
structure MA where
  B : Nat
  D : Nat
  ops : Nat
  args : Nat
  sorts : Nat
  datas : Nat
  N : Nat
structure MA.Ord (M : MA) : Prop where
  h0 : M.D < M.B
  h1 : M.B < M.ops
  h2 : M.ops < M.args
  h3 : M.args < M.sorts
  h4 : M.sorts < M.datas
  h5 : M.datas < M.N
def MA.muts (M : MA) : List Nat := [M.ops, M.args, M.sorts, M.datas, M.N]

abbrev Term := Str × Int × Sum Int (Int × Int)

structure MB (w : World) (M : MA) (ts : List Term) (c : Nat) (news : Led) (ops args sorts datas : Array Value) (e1 e2 e3 e4 : Nat) (oN : Obj) (xs : List (TKey × Addr × Value)) : Prop where
  mops : (M.ops, listOf ops e1) ∈ news
  margs : (M.args, listOf args e2) ∈ news
  msorts : (M.sorts, listOf sorts e3) ∈ news
  mdatas : (M.datas, listOf datas e4) ∈ news
  mN : (M.N, oN) ∈ news
  num : NumObj w oN xs
  keys : ∀ x ∈ xs, KeyIn w news x.1 x.2.1
  vals : ∀ x ∈ xs, ∃ (t : Nat) (tk : Tok), x.2.2 = .int t tk ∧ 0 < t ∧ ts[t]? = some (x.1.1, x.1.2.2)
  xlen : xs.length ≤ c
  tpos : 0 < ts.length
  tlen : ts.length ≤ c
  clen : c ≤ 1000000
  nsys : (M.N == sysModules) = false
  zops : ops.size = ts.length
  zargs : args.size = ts.length
  zsorts : sorts.size = ts.length
  zdatas : datas.size = ts.length
  tops : ∀ (i : Nat) (x : Term), ts[i]? = some x → ∃ t, ops[i]? = some (Value.str x.1 t)
  tsorts : ∀ (i : Nat) (x : Term), ts[i]? = some x → ∃ t, sorts[i]? = some (Value.int x.2.1 t)
  tdatas : ∀ (i : Nat) (x : Term), ts[i]? = some x → ∃ v, datas[i]? = some v ∧ DtIn w news x.2.2 v

inductive MBank (w : World) (M : MA) (ts : List Term) (c : Nat) (news : Led) : Prop
  | mk (ops args sorts datas : Array Value) (e1 e2 e3 e4 : Nat) (oN : Obj) (xs : List (TKey × Addr × Value)) (mb : MB w M ts c news ops args sorts datas e1 e2 e3 e4 oN xs) : MBank w M ts c news

structure Flds (M : MA) (es : List DictEntry) : Prop where
  ops : getL "term_ops" es = some (some (.ref M.ops))
  args : getL "term_args" es = some (some (.ref M.args))
  sorts : getL "term_sorts" es = some (some (.ref M.sorts))
  datas : getL "term_datas" es = some (some (.ref M.datas))
  N : getL "numbers" es = some (some (.ref M.N))


section
variable {w : World} {A : Around} {E : Value → Shared → Prop} {s : Shared} {h₀ : Heap} {L a d : Addr} {m : Str → Option Value} {news imm : Led} {o : Obj} {k : TKey} {xs : List (TKey × Addr × Value)}
theorem getm_N {M : Model} {pl : Sem Bool} {Q : Value × List Value → Shared → Prop} (N : News h₀ L s.heap news) (hm : (d, o) ∈ news) (ho : NumObj w o xs) (h : Q (.builtin "dict.get", [.ref d]) s) : wpAny M A (getMethod (.ref d) "get" pl) Q E s :=
  getMethod_builtin ⟨o, N.get hm, ho.1.1⟩ PySem.F.plainAttrs_dict PySem.F.slot_dict_get PySem.F.type_dict_get (fun b e => by injection e with e; subst e; exact ⟨o, N.get hm, ho.1.2.1⟩) h
theorem keyIn_new {op : Str} {l : List Int} {b : Addr} {sort : Int} {dat : Sum Int (Int × Int)} {v : Value} {t1 t2 : Tok} {n : Nat} (hok : keyOk (op, l, sort, dat)) (hl : IntTupIn w imm l b) (hd : DtIn w imm dat v)
    (hm : (a, tupO #[.str op t1, .ref b, .int sort t2, v] n) ∈ news) (hs : ∀ p ∈ imm, p ∈ news) : KeyIn w news (op, l, sort, dat) a :=
  ⟨hok, n, t1, b, t2, v, hm, hl.monoT fun p hp _ => hs p hp, hd.monoT fun p hp _ => hs p hp⟩
theorem atKey_mem {q : Addr × Value} (h : atKey xs k = some q) : (k, q) ∈ xs := by
  unfold atKey at h
  obtain ⟨x, hx, rfl⟩ := Option.map_eq_some_iff.mp h
  have h1 := List.mem_of_find?_eq_some hx
  have h2 := List.find?_some hx
  simp only [decide_eq_true_eq] at h2
  rw [← h2]; exact h1
end


section
variable {w : World} {M : MA} {ts : List Term} {c : Nat} {news news2 : Led} {ops args sorts datas : Array Value} {e1 e2 e3 e4 e1' e2' e3' e4' : Nat} {oN o' : Obj} {xs : List (TKey × Addr × Value)}
theorem MB.stay {c' : Nat} (mb : MB w M ts c news ops args sorts datas e1 e2 e3 e4 oN xs) (hc : c ≤ c') (hc' : c' ≤ 1000000) (m1 : (M.ops, listOf ops e1) ∈ news2) (m2 : (M.args, listOf args e2) ∈ news2) (m3 : (M.sorts, listOf sorts e3) ∈ news2)
    (m4 : (M.datas, listOf datas e4) ∈ news2) (m5 : (M.N, oN) ∈ news2) (ht : ∀ p ∈ news, IsT p.2 → p ∈ news2) : MB w M ts c' news2 ops args sorts datas e1 e2 e3 e4 oN xs where
  mops := m1
  margs := m2
  msorts := m3
  mdatas := m4
  mN := m5
  num := mb.num
  keys := fun x hx => (mb.keys x hx).monoT ht
  vals := mb.vals
  xlen := Nat.le_trans mb.xlen hc
  tpos := mb.tpos
  tlen := Nat.le_trans mb.tlen hc
  clen := hc'
  nsys := mb.nsys
  zops := mb.zops
  zargs := mb.zargs
  zsorts := mb.zsorts
  zdatas := mb.zdatas
  tops := mb.tops
  tsorts := mb.tsorts
  tdatas := fun i x hx => (mb.tdatas i x hx).imp fun v q => ⟨q.1, q.2.monoT ht⟩

theorem push_get {α : Type} {xs : Array α} {n i : Nat} {v y : α} (hn : xs.size = n) (h : i < n → xs[i]? = some y) (h2 : i = n → v = y) (hi : i ≤ n) : (xs.push v)[i]? = some y := by
  rcases Nat.lt_or_ge i n with q | q
  · rw [Array.getElem?_push_lt (by omega)]
    rw [← h q, Array.getElem?_eq_getElem (by omega)]
  · have e : i = n := by omega
    subst e
    rw [← hn, Array.getElem?_push_size, h2 rfl]

theorem get_app {ts : List Term} {y x : Term} {i : Nat} (h : (ts ++ [y])[i]? = some x) : (i < ts.length ∧ ts[i]? = some x) ∨ (i = ts.length ∧ y = x) := by
  rcases Nat.lt_or_ge i ts.length with q | q
  · exact .inl ⟨q, by rw [List.getElem?_append_left q] at h; exact h⟩
  · rw [List.getElem?_append_right q] at h
    rcases Nat.eq_or_lt_of_le q with r | r
    · subst r; simp at h; exact .inr ⟨rfl, h⟩
    · rw [List.getElem?_eq_none (by simp; omega)] at h; cases h

theorem MB.grow {op : Str} {l : List Int} {sort : Int} {dat : Sum Int (Int × Int)} {v va : Value} {t1 t2 tk : Tok} {a : Addr} (mb : MB w M ts c news ops args sorts datas e1 e2 e3 e4 oN xs) (hc : c < 1000000)
    (hat : atKey xs (op, l, sort, dat) = none) (num : NumObj w o' (storedH xs (op, l, sort, dat) a (.int ts.length tk))) (hk : KeyIn w news2 (op, l, sort, dat) a) (hd : DtIn w news2 dat v)
    (m1 : (M.ops, listOf (ops.push (.str op t1)) e1') ∈ news2) (m2 : (M.args, listOf (args.push va) e2') ∈ news2) (m3 : (M.sorts, listOf (sorts.push (.int sort t2)) e3') ∈ news2)
    (m4 : (M.datas, listOf (datas.push v) e4') ∈ news2) (m5 : (M.N, o') ∈ news2) (ht : ∀ p ∈ news, IsT p.2 → p ∈ news2) :
    MB w M (ts ++ [(op, sort, dat)]) (c + 1) news2 (ops.push (.str op t1)) (args.push va) (sorts.push (.int sort t2)) (datas.push v) e1' e2' e3' e4' o' (storedH xs (op, l, sort, dat) a (.int ts.length tk)) := by
  have e := storedH_new hat a (.int ts.length tk)
  have hp := mb.tpos
  refine ⟨m1, m2, m3, m4, m5, num, ?_, ?_, ?_, by simp, by simp; exact mb.tlen, by omega, mb.nsys, by simp [mb.zops], by simp [mb.zargs], by simp [mb.zsorts], by simp [mb.zdatas], ?_, ?_, ?_⟩
  · rw [e]
    intro x hx
    rcases List.mem_append.mp hx with hx | hx
    · exact (mb.keys x hx).monoT ht
    · rw [List.mem_singleton.mp hx]; exact hk
  · rw [e]
    intro x hx
    rcases List.mem_append.mp hx with hx | hx
    · obtain ⟨t, tk, h1, h2, h3⟩ := mb.vals x hx
      refine ⟨t, tk, h1, h2, ?_⟩
      rw [List.getElem?_append_left (List.getElem?_eq_some_iff.mp h3).1]
      exact h3
    · rw [List.mem_singleton.mp hx]
      exact ⟨ts.length, tk, rfl, hp, by simp⟩
  · rw [e]; simp; exact mb.xlen
  · intro i x hx
    rcases get_app hx with ⟨q, h⟩ | ⟨q, h⟩
    · obtain ⟨t, ht⟩ := mb.tops i x h
      exact ⟨t, push_get mb.zops (fun _ => ht) (fun z => by omega) (by omega)⟩
    · subst h
      exact ⟨t1, push_get mb.zops (fun z => by omega) (fun _ => rfl) (by omega)⟩
  · intro i x hx
    rcases get_app hx with ⟨q, h⟩ | ⟨q, h⟩
    · obtain ⟨t, ht⟩ := mb.tsorts i x h
      exact ⟨t, push_get mb.zsorts (fun _ => ht) (fun z => by omega) (by omega)⟩
    · subst h
      exact ⟨t2, push_get mb.zsorts (fun z => by omega) (fun _ => rfl) (by omega)⟩
  · intro i x hx
    rcases get_app hx with ⟨q, h⟩ | ⟨q, h⟩
    · obtain ⟨u, hu, hd'⟩ := mb.tdatas i x h
      exact ⟨u, push_get mb.zdatas (fun _ => hu) (fun z => by omega) (by omega), hd'.monoT ht⟩
    · subst h
      exact ⟨v, push_get mb.zdatas (fun z => by omega) (fun _ => rfl) (by omega), hd⟩
end

section
variable {w : World} {S : Scope} {z : Nat} {c : Fx w S z} {l : FL} {I : Led → Prop} {a d : Addr} {k : TKey} {V : Value → Prop} {ea : PySem.Expr} {y : Str} {p1 p2 p3 p4 : Pos} {k0 : Tok}
theorem ei_dget (ha : Ei c c.env l I ea (isR d) I) (hy : Ei c c.env l I (.Name y p3) (isR a) I) (hN : ∀ nw, I nw → ∃ o xs, (d, o) ∈ nw ∧ NumObj w o xs ∧ KeyIn w nw k a ∧ (∀ x ∈ xs, KeyIn w nw x.1 x.2.1) ∧ ∀ tk, V (((atKey xs k).map (·.2)).getD (.int 0 tk))) (hs : (d == sysModules) = false) (hz : Nat.ble 2 z = true)
    (he : Meth0 ea "get" p1 p2 [.Name y p3, .Constant (.int 0) k0 p4] c.env) : Ei c c.env l I (.Call (.Attribute ea "get" p1) [.Name y p3, .Constant (.int 0) k0 p4] [] p2) V I := by
  with_unfolding_all
    exact fun m s news Q E fo F N i ret => by
      obtain ⟨pl, he⟩ := he
      refine MethodCall_ (ha m s news _ E fo F N i fun u n0 h0 tk0 F0 N0 i0 => ?_) he
      obtain ⟨hu0, i0⟩ := i0
      obtain rfl : u = .ref d := hu0
      obtain ⟨o, xs, hm, ho, _⟩ := hN _ i0
      refine getm_N N0 hm ho (callWith_method1 (args_cons (hy m _ n0 _ E fo F0 N0 i0 fun v n1 h1 tk1 F1 N1 j1 => args_cons (wpAny_Constant_int (args_nil ?_)))))
      obtain ⟨hv, i1⟩ := j1
      obtain rfl : v = .ref a := hv
      obtain ⟨o, xs, hm, ho, hk, hx, hV⟩ := hN _ i1
      exact get_N N1 hm ho hk hx (Nat.lt_of_le_of_lt (Nat.add_le_add_left (Nat.le_trans (by decide : 8 ≤ 8 * 2) (Nat.mul_le_mul_left 8 (Nat.le_of_ble_eq_true hz))) _) c.units) hs (ret _ n1 h1 _ F1 N1 ⟨hV _, i1⟩)
end
theorem DtIn.ofV {w : World} {news : Led} {dat : Sum Int (Int × Int)} {v u : Value} (h : DtIn w news dat v) (q : ofV v u) : DtIn w news dat u := by
  cases dat with
  | inl i =>
    obtain ⟨t, rfl⟩ := h
    exact q
  | inr i =>
    obtain ⟨b, rfl, h⟩ := h
    exact ⟨b, q, h⟩
theorem MA.out {M : MA} {a : Nat} (h : a ∉ M.muts) : a ≠ M.ops ∧ a ≠ M.args ∧ a ≠ M.sorts ∧ a ≠ M.datas ∧ a ≠ M.N := by
  simp only [MA.muts, List.mem_cons, List.not_mem_nil, or_false, not_or] at h
  exact h
theorem spec_makeS (w : World) {M : MA} {ts : List Term} {c : Nat} {news : Led} {es : List DictEntry} {n : Nat} {op : Str} {l : List Int} {b : Addr} {sort : Int} {dat : Sum Int (Int × Int)} {v : Value} {t1 t2 : Tok}
    (hM : M.Ord) (hB : (M.B, instObj 740 M.D) ∈ news) (hD : (M.D, dictOf es n) ∈ news) (hf : Flds M es) (hmb : MBank w M ts c news) (hc : c < 1000000)
    (hok : keyOk (op, l, sort, dat)) (hl : IntTupIn w news l b) (hd : DtIn w news dat v) :
    Spec w 354 3 news [.ref M.B, .str op t1, .ref b, .int sort t2, v]
      (fun r news' => ∃ (t : Nat) (tk : Tok) (ts' : List Term), r = .int t tk ∧ 0 < t ∧ MBank w M ts' (c + 1) news' ∧ ts <+: ts' ∧ ts'[t]? = some (op, sort, dat) ∧ (∀ p ∈ news, (p.1 ∉ M.muts ∨ p.2.cls = .type "tuple") → p ∈ news') ∧ (ts' = ts ∨ ts' = ts ++ [(op, sort, dat)])) := by
  obtain ⟨ops, args, sorts, datas, e1, e2, e3, e4, oN, xs, mb⟩ := hmb
  obtain ⟨h01, h02, h03, h04, h05, h06⟩ := hM
  have o23 := Nat.lt_trans h03 h04
  have o24 := Nat.lt_trans o23 h05
  have o25 := Nat.lt_trans o24 h06
  have o35 := Nat.lt_trans h04 (Nat.lt_trans h05 h06)
  have o34 := Nat.lt_trans h04 h05
  have o45 := Nat.lt_trans h05 h06
  refine spec_def (o := o354) (binds := [(Str.ofString "self", Value.ref M.B), (Str.ofString "op", .str op t1), (Str.ofString "args", .ref b), (Str.ofString "sort", .int sort t2), (Str.ofString "data", v)]) (by kernel_rfl) rfl (by kernel_rfl) rfl (locs rfl) rfl rfl rfl (by decide) fun c _ => sr_news fun h0 N => ?_
  have off : ∀ p ∈ news, (p.1 ∉ M.muts ∨ p.2.cls = .type "tuple") → @Ne Nat p.1 M.ops ∧ @Ne Nat p.1 M.args ∧ @Ne Nat p.1 M.sorts ∧ @Ne Nat p.1 M.datas ∧ @Ne Nat p.1 M.N := fun p hp q => q.elim MA.out fun hc => by
    have nl : p.2.cls ≠ .type "list" := by rw [hc]; decide
    exact ⟨newsNe N hp mb.mops nl, newsNe N hp mb.margs nl, newsNe N hp mb.msorts nl, newsNe N hp mb.mdatas nl, newsNe N hp mb.mN (by rw [hc, mb.num.1.1]; decide)⟩
  refine sr_setX (α := Addr × Tok × Tok × Value) (U := fun a => isR a.1) (K := fun a nw => (∀ p ∈ news, @LT.lt Nat _ p.1 a.1) ∧ DtIn w news dat a.2.2.2 ∧ At ((a.1, tupO #[.str op a.2.1, .ref b, .int sort a.2.2.1, a.2.2.2] 0) :: news) nw) rfl (by kernel_rfl)
    (eg_mono (eg_tuple (eil_cons rfl (ei_name rfl) (eil_cons rfl (ei_name rfl) (eil_cons rfl (ei_name rfl) (eil_cons rfl (ei_name rfl) eil_nil)))) fun vs nw j => by rw [alls_len j.1]; exact Nat.le_of_ble_eq_true rfl) fun u nw ⟨D, vs, nw0, hu, hn, j, lt⟩ => by
      obtain ⟨v1, v2, v3, v4, e0, ⟨t1, q1⟩, q2, ⟨t3, q3⟩, q4⟩ := alls4 j.1
      obtain rfl : v2 = .ref b := q2
      obtain rfl : nw0 = news := j.2
      subst e0 q1 q3
      exact ⟨(D, t1, t3, v4), hu, lt, hd.ofV q4, hn⟩) fun ⟨K, u1, u2, v'⟩ => sr_and fun lt => sr_and fun hd' => ?_
  have hin : ∀ {p : Addr × Obj}, p ∈ news → p ∈ (K, tupO #[.str op u1, .ref b, .int sort u2, v'] 0) :: news := fun h => .tail _ h
  have hk : KeyIn w ((K, tupO #[.str op u1, .ref b, .int sort u2, v'] 0) :: news) (op, l, sort, dat) K := keyIn_new hok hl hd' (.head _) fun p h => .tail _ h
  have hx : ∀ x ∈ xs, KeyIn w ((K, tupO #[.str op u1, .ref b, .int sort u2, v'] 0) :: news) x.1 x.2.1 := fun x q => (mb.keys x q).monoT fun p h _ => .tail _ h
  have nB : @Ne Nat M.B M.ops ∧ @Ne Nat M.B M.args ∧ @Ne Nat M.B M.sorts ∧ @Ne Nat M.B M.datas := ⟨Nat.ne_of_lt h02, Nat.ne_of_lt (Nat.lt_trans h02 h03), Nat.ne_of_lt (Nat.lt_trans h02 o23), Nat.ne_of_lt (Nat.lt_trans h02 o24)⟩
  have nD : @Ne Nat M.D M.ops ∧ @Ne Nat M.D M.args ∧ @Ne Nat M.D M.sorts ∧ @Ne Nat M.D M.datas := ⟨Nat.ne_of_lt (Nat.lt_trans h01 h02), Nat.ne_of_lt (Nat.lt_trans h01 (Nat.lt_trans h02 h03)), Nat.ne_of_lt (Nat.lt_trans h01 (Nat.lt_trans h02 o23)), Nat.ne_of_lt (Nat.lt_trans h01 (Nat.lt_trans h02 o24))⟩
  cases hat : atKey xs (op, l, sort, dat) with
  | some q =>
    obtain ⟨qa, qv⟩ := q
    obtain ⟨t, tk, e, ht, hts⟩ := mb.vals _ (atKey_mem hat)
    refine si_set (U := isI t) rfl (by kernel_rfl) (ei_dget (ei_field bf_N (ei_name rfl) (at_self ⟨es, n, hin hB, hin hD, hf.N⟩) rfl) (ei_name rfl) (at_self ⟨oN, xs, hin mb.mN, mb.num, hk, hx, fun tk0 => ⟨tk, by rw [hat]; exact e⟩⟩) mb.nsys rfl (meth0 rfl rfl rfl rfl)) ?_
    refine sr_ifF (ti_to (ti_eqI (ei_name rfl) ei_int) (beq_eq_false_iff_ne.mpr (Int.ofNat_ne_zero.mpr (Nat.ne_of_gt ht)))) (sr_mono (si_ret (ei_name rfl)) ?_)
    rintro r nw ⟨⟨tk', rfl⟩, rfl⟩
    exact ⟨t, tk', ts, rfl, ht, ⟨_, _, _, _, _, _, _, _, _, _, mb.stay (Nat.le_succ _) hc (hin mb.mops) (hin mb.margs) (hin mb.msorts) (hin mb.mdatas) (hin mb.mN) fun p hp _ => hin hp⟩, List.prefix_refl _, hts, fun p hp _ => hin hp, .inl rfl⟩
  | none =>
    refine si_set (U := isI 0) rfl (by kernel_rfl) (ei_dget (ei_field bf_N (ei_name rfl) (at_self ⟨es, n, hin hB, hin hD, hf.N⟩) rfl) (ei_name rfl) (at_self ⟨oN, xs, hin mb.mN, mb.num, hk, hx, fun tk0 => ⟨tk0, by rw [hat]; rfl⟩⟩) mb.nsys rfl (meth0 rfl rfl rfl rfl)) ?_
    have P0 : ∀ nw, At ((K, tupO #[.str op u1, .ref b, .int sort u2, v'] 0) :: news) nw → ∀ p, (p ∈ (K, tupO #[.str op u1, .ref b, .int sort u2, v'] 0) :: news ∧ @Ne Nat p.1 M.ops ∧ @Ne Nat p.1 M.args ∧ @Ne Nat p.1 M.sorts ∧ @Ne Nat p.1 M.datas) → p ∈ nw := fun nw e p hp => by rw [show nw = _ from e]; exact hp.1
    have P1 := up_kept (L := M.ops) (arr := ops) (k := e1) (V := isS op) P0 fun p hp => hp.2.1
    have P2 := up_kept (L := M.args) (arr := args) (k := e2) (V := isR b) P1 fun p hp => hp.2.2.1
    have P3 := up_kept (L := M.sorts) (arr := sorts) (k := e3) (V := isI sort) P2 fun p hp => hp.2.2.2.1
    have P4 := up_kept (L := M.datas) (arr := datas) (k := e4) (V := ofV v) P3 fun p hp => hp.2.2.2.2
    have sz : ∀ {a : Array Value}, a.size = ts.length → a.size ≤ 2000000 := fun q => q ▸ Nat.le_trans mb.tlen (Nat.le_trans (Nat.le_of_lt hc) (by decide))
    have kN : @Ne Nat M.N M.ops ∧ @Ne Nat M.N M.args ∧ @Ne Nat M.N M.sorts ∧ @Ne Nat M.N M.datas := ⟨Nat.ne_of_gt o25, Nat.ne_of_gt o35, Nat.ne_of_gt o45, Nat.ne_of_gt h06⟩
    have kx : ∀ {nw : Led}, (∀ p, (p ∈ (K, tupO #[.str op u1, .ref b, .int sort u2, v'] 0) :: news ∧ @Ne Nat p.1 M.ops ∧ @Ne Nat p.1 M.args ∧ @Ne Nat p.1 M.sorts ∧ @Ne Nat p.1 M.datas) → p ∈ nw) → ∀ p ∈ (K, tupO #[.str op u1, .ref b, .int sort u2, v'] 0) :: news, IsT p.2 → p ∈ nw := fun h p hp q => h p ⟨hp, by
      rcases List.mem_cons.mp hp with rfl | hp
      · exact ⟨Nat.ne_of_gt (lt _ mb.mops), Nat.ne_of_gt (lt _ mb.margs), Nat.ne_of_gt (lt _ mb.msorts), Nat.ne_of_gt (lt _ mb.mdatas)⟩
      · have q := off p hp (.inr q.1)
        exact ⟨q.1, q.2.1, q.2.2.1, q.2.2.2.1⟩⟩
    refine sr_ifN (l' := [(Str.ofString "found", isI (ts.length : Nat))]) (I2 := fun nw => ∃ t2 o' nw4, NumObj w o' (storedH xs (op, l, sort, dat) K (.int ts.length t2)) ∧ nw = upL M.N o' nw4 ∧ UpI M.datas datas e4 (ofV v) (UpI M.sorts sorts e3 (isI sort) (UpI M.args args e2 (isR b) (UpI M.ops ops e1 (isS op) (At ((K, tupO #[.str op u1, .ref b, .int sort u2, v'] 0) :: news))))) nw4) (ti_to (ti_eqI (ei_name rfl) ei_int) (by rfl)) ?_ (sr_mono (si_ret (ei_name rfl)) ?_)
    · refine si_set (U := isI (ts.length : Nat)) rfl (by kernel_rfl) (ei_len (ei_blt (by kernel_rfl) (by decide) (by decide) (by kernel_rfl) (by kernel_rfl)) rfl (ei_field bf_ops (ei_name rfl) (at_self ⟨es, n, hin hB, hin hD, hf.ops⟩) rfl) (at_self ⟨_, _, hin mb.mops, mb.zops⟩) (Nat.lt_of_le_of_lt mb.tlen (Nat.lt_trans hc (by decide)))) ?_
      refine sr_do (ei_append (ei_field bf_ops (ei_name rfl) (at_self ⟨es, n, hin hB, hin hD, hf.ops⟩) rfl) rfl (ei_name rfl) (at_self (hin mb.mops)) (sz mb.zops) (meth0 rfl rfl rfl rfl)) ?_ rfl rfl
      refine sr_do (ei_append (ei_field bf_args (ei_name rfl) (fun nw i => ⟨es, n, P1 nw i _ ⟨hin hB, nB⟩, P1 nw i _ ⟨hin hD, nD⟩, hf.args⟩) rfl) rfl (ei_name rfl) (up_mem (at_self (hin mb.margs)) (Nat.ne_of_gt h03)) (sz mb.zargs) (meth0 rfl rfl rfl rfl)) ?_ rfl rfl
      refine sr_do (ei_append (ei_field bf_sorts (ei_name rfl) (fun nw i => ⟨es, n, P2 nw i _ ⟨hin hB, nB⟩, P2 nw i _ ⟨hin hD, nD⟩, hf.sorts⟩) rfl) rfl (ei_name rfl) (up_mem (up_mem (at_self (hin mb.msorts)) (Nat.ne_of_gt o23)) (Nat.ne_of_gt h04)) (sz mb.zsorts) (meth0 rfl rfl rfl rfl)) ?_ rfl rfl
      refine sr_do (ei_append (ei_field bf_datas (ei_name rfl) (fun nw i => ⟨es, n, P3 nw i _ ⟨hin hB, nB⟩, P3 nw i _ ⟨hin hD, nD⟩, hf.datas⟩) rfl) rfl (ei_name rfl) (up_mem (up_mem (up_mem (at_self (hin mb.mdatas)) (Nat.ne_of_gt o24)) (Nat.ne_of_gt o34)) (Nat.ne_of_gt h05)) (sz mb.zdatas) (meth0 rfl rfl rfl rfl)) ?_ rfl rfl
      refine sr_item (V := isI (ts.length : Nat)) (U := isR K) (W := isR M.N) (ei_name rfl) (ei_field bf_N (ei_name rfl) (fun nw i => ⟨es, n, P4 nw i _ ⟨hin hB, nB⟩, P4 nw i _ ⟨hin hD, nD⟩, hf.N⟩) rfl) (ei_name rfl) (fun u v9 d s m nw Q E hu hv hd F N i ret => ?_) (sf_nil (fun _ i => i) fun m fo => fo.one) rfl
      obtain ⟨tk, rfl⟩ := hu
      obtain rfl : v9 = .ref K := hv
      obtain rfl : d = .ref M.N := hd
      exact set_N F N (P4 nw i _ ⟨hin mb.mN, kN⟩) mb.num (hk.monoT (kx (P4 nw i))) (fun x q => (hx x q).monoT (kx (P4 nw i))) (Nat.lt_of_le_of_lt (Nat.add_le_add_left (by decide : 8 ≤ 8 * 2) _) c.units) (Nat.le_trans mb.xlen (Nat.le_trans (Nat.le_of_lt hc) (by decide))) fun h' o' F' N' num => ret h' _ _ F' N' ⟨tk, o', nw, num, rfl, i⟩
    · rintro r nw ⟨⟨tk', rfl⟩, t2, o', nw4, num, rfl, i4⟩
      obtain ⟨_, ⟨t1, rfl⟩, m1⟩ := up_memE (up_memE (up_memE up_head (Nat.ne_of_lt h03)) (Nat.ne_of_lt o23)) (Nat.ne_of_lt o24) nw4 i4
      obtain ⟨v5, e5, m2⟩ := up_memE (up_memE up_head (Nat.ne_of_lt h04)) (Nat.ne_of_lt o34) nw4 i4
      obtain ⟨_, ⟨t3, rfl⟩, m3⟩ := up_memE up_head (Nat.ne_of_lt h05) nw4 i4
      obtain ⟨v6, e6, m4⟩ := up_head nw4 i4
      rw [show v5 = Value.ref b from e5] at m2
      have all : ∀ p ∈ news, (p.1 ∉ M.muts ∨ p.2.cls = .type "tuple") → p ∈ upL M.N o' nw4 := fun p hp q => let z := off p hp q; mem_up (P4 nw4 i4 p ⟨hin hp, z.1, z.2.1, z.2.2.1, z.2.2.2.1⟩) z.2.2.2.2
      have k5 : ∀ p ∈ (K, tupO #[.str op u1, .ref b, .int sort u2, v'] 0) :: news, IsT p.2 → p ∈ upL M.N o' nw4 := fun p hp q => mem_up (kx (P4 nw4 i4) p hp q) (by
        rcases List.mem_cons.mp hp with rfl | hp
        · exact Nat.ne_of_gt (lt _ mb.mN)
        · exact (off p hp (.inr q.1)).2.2.2.2)
      exact ⟨ts.length, tk', ts ++ [(op, sort, dat)], rfl, mb.tpos, ⟨_, _, _, _, _, _, _, _, _, _, mb.grow hc hat num (hk.monoT k5) (((hd.ofV e6).monoT fun p hp _ => hin hp).monoT k5) (mem_up m1 (Nat.ne_of_lt o25)) (mem_up m2 (Nat.ne_of_lt o35)) (mem_up m3 (Nat.ne_of_lt o45)) (mem_up m4 (Nat.ne_of_lt h06)) (.head _) fun p hp q => all p hp (.inr q.1)⟩, List.prefix_append _ _, by simp, all, .inr rfl⟩
theorem spec_make (w : World) {M : MA} {ts : List Term} {c : Nat} {news : Led} {es : List DictEntry} {n : Nat} {op : Str} {l : List Int} {b : Addr} {sort : Int} {dat : Sum Int (Int × Int)} {v : Value} {t1 t2 : Tok}
    (hM : M.Ord) (hB : (M.B, instObj 740 M.D) ∈ news) (hD : (M.D, dictOf es n) ∈ news) (hf : Flds M es) (hmb : MBank w M ts c news) (hc : c < 1000000)
    (hok : keyOk (op, l, sort, dat)) (hl : IntTupIn w news l b) (hd : DtIn w news dat v) :
    Spec w 354 3 news [.ref M.B, .str op t1, .ref b, .int sort t2, v]
      (fun r news' => ∃ (t : Nat) (tk : Tok) (ts' : List Term), r = .int t tk ∧ 0 < t ∧ MBank w M ts' (c + 1) news' ∧ ts <+: ts' ∧ ts'[t]? = some (op, sort, dat) ∧ ∀ p ∈ news, (p.1 ∉ M.muts ∨ p.2.cls = .type "tuple") → p ∈ news') :=
  (spec_makeS w hM hB hD hf hmb hc hok hl hd).mono fun r n q => q.imp fun _ q => q.imp fun _ q => q.imp fun _ q => ⟨q.1, q.2.1, q.2.2.1, q.2.2.2.1, q.2.2.2.2.1, q.2.2.2.2.2.1⟩

structure BA where
  M : MA
  ln : Nat
  lw : Nat
  fn : Nat
  fa : Nat
  fr : Nat
  V : Nat
structure BA.Ord (b : BA) : Prop where
  h0 : b.M.D < b.M.B
  h1 : b.M.B < b.ln
  h2 : b.ln < b.lw
  h3 : b.lw < b.fn
  h4 : b.fn < b.fa
  h5 : b.fa < b.fr
  h6 : b.fr < b.M.ops
  h7 : b.M.ops < b.M.args
  h8 : b.M.args < b.M.sorts
  h9 : b.M.sorts < b.M.datas
  h10 : b.M.datas < b.M.N
  h11 : b.M.N < b.V
def BA.adr (b : BA) : Nat → Nat
  | 0 => b.M.D
  | 1 => b.M.B
  | 2 => b.ln
  | 3 => b.lw
  | 4 => b.fn
  | 5 => b.fa
  | 6 => b.fr
  | 7 => b.M.ops
  | 8 => b.M.args
  | 9 => b.M.sorts
  | 10 => b.M.datas
  | 11 => b.M.N
  | _ => b.V
theorem BA.Ord.step {b : BA} (h : b.Ord) : ∀ k, k < 12 → b.adr k < b.adr (k + 1)
  | 0, _ => h.h0
  | 1, _ => h.h1
  | 2, _ => h.h2
  | 3, _ => h.h3
  | 4, _ => h.h4
  | 5, _ => h.h5
  | 6, _ => h.h6
  | 7, _ => h.h7
  | 8, _ => h.h8
  | 9, _ => h.h9
  | 10, _ => h.h10
  | 11, _ => h.h11
  | k + 12, q => absurd q (Nat.not_lt.mpr (Nat.le_add_left 12 k))
theorem BA.Ord.lt {b : BA} (h : b.Ord) {i : Nat} : ∀ {j : Nat}, i < j → j ≤ 12 → b.adr i < b.adr j
  | 0, q, _ => absurd q (Nat.not_lt_zero _)
  | j + 1, q, r => (Nat.lt_or_eq_of_le (Nat.le_of_lt_succ q)).elim (fun q => Nat.lt_trans (h.lt q (Nat.le_of_lt r)) (h.step j r)) fun q => by subst q; exact h.step _ r
theorem BA.Ord.ne {b : BA} (h : b.Ord) {i j : Nat} (q : i ≠ j) (hi : i ≤ 12) (hj : j ≤ 12) : b.adr i ≠ b.adr j :=
  (Nat.lt_or_gt_of_ne q).elim (fun q => Nat.ne_of_lt (h.lt q hj)) fun q => Nat.ne_of_gt (h.lt q hi)
theorem BA.Ord.le {b : BA} (h : b.Ord) {i j : Nat} (q : i ≤ j) (hj : j ≤ 12) : b.adr i ≤ b.adr j := (Nat.lt_or_eq_of_le q).elim (fun q => Nat.le_of_lt (h.lt q hj)) fun q => by subst q; exact Nat.le_refl _
theorem BA.Ord.rng {b : BA} (h : b.Ord) (i : Nat) (q : Nat.ble i 12 = true) : b.M.D ≤ b.adr i ∧ b.adr i ≤ b.V := ⟨h.le (i := 0) (Nat.zero_le i) (Nat.le_of_ble_eq_true q), h.le (j := 12) (Nat.le_of_ble_eq_true q) (Nat.le_refl _)⟩
def BA.Out (b : BA) (ks : List Nat) (x : Nat) : Prop := ∀ k ∈ ks, x ≠ b.adr k
theorem BA.Ord.out {b : BA} (h : b.Ord) {ks : List Nat} (i : Nat) (q : (Nat.ble i 12 && ks.all fun k => Nat.ble k 12 && !(Nat.beq i k)) = true) : b.Out ks (b.adr i) := fun k hk => by
  obtain ⟨q1, q2⟩ := Bool.and_eq_true_iff.mp q
  obtain ⟨q3, q4⟩ := Bool.and_eq_true_iff.mp (List.all_eq_true.mp q2 k hk)
  exact h.ne (fun e => by subst e; rw [Nat.beq_refl] at q4; cases q4) (Nat.le_of_ble_eq_true q1) (Nat.le_of_ble_eq_true q3)
theorem BA.Ord.outR {b : BA} (h : b.Ord) {ks : List Nat} (lo hi : Nat) (q : (Nat.ble hi 12 && ks.all fun k => Nat.ble k 12 && (Nat.ble (k + 1) lo || Nat.ble (hi + 1) k)) = true) {i : Nat} (h1 : lo ≤ i) (h2 : i ≤ hi) : b.Out ks (b.adr i) := fun k hk => by
  obtain ⟨q1, q2⟩ := Bool.and_eq_true_iff.mp q
  obtain ⟨q3, q4⟩ := Bool.and_eq_true_iff.mp (List.all_eq_true.mp q2 k hk)
  exact h.ne ((Bool.or_eq_true_iff.mp q4).elim (fun z => Nat.ne_of_gt (Nat.lt_of_lt_of_le (Nat.le_of_ble_eq_true z) h1)) fun z => Nat.ne_of_lt (Nat.lt_of_le_of_lt h2 (Nat.le_of_ble_eq_true z))) (Nat.le_trans h2 (Nat.le_of_ble_eq_true q1)) (Nat.le_of_ble_eq_true q3)
theorem BA.Ord.outV {b : BA} (h : b.Ord) {ks : List Nat} {x : Nat} (q : ks.all (fun k => Nat.ble k 12) = true) (hx : b.V < x ∨ x < b.M.D) : b.Out ks x := fun k hk => by
  have r := h.rng k (List.all_eq_true.mp q k hk)
  exact hx.elim (fun z => Nat.ne_of_gt (Nat.lt_of_le_of_lt r.2 z)) fun z => Nat.ne_of_lt (Nat.lt_of_lt_of_le z r.1)
theorem BA.Ord.ma {b : BA} (h : b.Ord) : b.M.Ord := ⟨h.h0, h.lt (i := 1) (j := 7) (by decide) (by decide), h.h7, h.h8, h.h9, h.h10⟩
theorem BA.Out.muts {b : BA} {x : Nat} (h : b.Out [7, 8, 9, 10, 11] x) : x ∉ b.M.muts := fun hm => by
  simp only [MA.muts, List.mem_cons, List.not_mem_nil, or_false] at hm
  rcases hm with e | e | e | e | e
  · exact h 7 (.head _) e
  · exact h 8 (.tail _ (.head _)) e
  · exact h 9 (.tail _ (.tail _ (.head _))) e
  · exact h 10 (.tail _ (.tail _ (.tail _ (.head _)))) e
  · exact h 11 (.tail _ (.tail _ (.tail _ (.tail _ (.head _))))) e

structure AF (b : BA) (es : List DictEntry) : Prop where
  names : getL "sort_names" es = some (some (.ref b.ln))
  widths : getL "sort_widths" es = some (some (.ref b.lw))
  fns : getL "fun_names" es = some (some (.ref b.fn))
  fas : getL "fun_args" es = some (some (.ref b.fa))
  frs : getL "fun_results" es = some (some (.ref b.fr))
  ops : getL "term_ops" es = some (some (.ref b.M.ops))
  args : getL "term_args" es = some (some (.ref b.M.args))
  sorts : getL "term_sorts" es = some (some (.ref b.M.sorts))
  datas : getL "term_datas" es = some (some (.ref b.M.datas))
  N : getL "numbers" es = some (some (.ref b.M.N))
  tru : ∃ t, getL "true_number" es = some (some (.int 1 t))
  fal : ∃ t, getL "false_number" es = some (some (.int 2 t))
  V : getL "bv_numbers" es = some (some (.ref b.V))
  make : getL "make" es = some none
  want : getL "want" es = some none
  want_bits : getL "want_bits" es = some none
  width : getL "width" es = some none
  op : getL "op" es = some none
  data : getL "data" es = some none
  bv_sort : getL "bv_sort" es = some none
  bv_one : getL "bv_one" es = some none
  bv_two : getL "bv_two" es = some none
  concat : getL "concat" es = some none
  extract : getL "extract" es = some none
  zero_extend : getL "zero_extend" es = some none
  sign_extend : getL "sign_extend" es = some none
  bit : getL "bit" es = some none
  declare_fun : getL "declare_fun" es = some none
  fresh_const : getL "fresh_const" es = some none
  eq : getL "eq" es = some none
  not_of : getL "not_of" es = some none

theorem AF.flds {b : BA} {es : List DictEntry} (h : AF b es) : Flds b.M es := ⟨h.ops, h.args, h.sorts, h.datas, h.N⟩

structure FB (w : World) (b : BA) (ts : List Term) (ws : List Int) (c : Nat) (T : Led) : Prop where
  ord : b.Ord
  terms : MBank w b.M ts c T
  inst : (b.M.B, instObj 740 b.M.D) ∈ T
  dict : ∃ es n, (b.M.D, dictOf es n) ∈ T ∧ AF b es
  names : ∃ a e, (b.ln, listOf a e) ∈ T ∧ a.size = ws.length
  widths : ∃ a e, (b.lw, listOf a e) ∈ T ∧ a.size = ws.length ∧ ∀ (i : Nat) (x : Int), ws[i]? = some x → ∃ t, a[i]? = some (Value.int x t)
  V : ∃ o kvs D, (b.V, o) ∈ T ∧ o.IsDictOf (intKind PP w) kvs ∧ PyProof.V.FlatPairs PyData.int kvs D ∧ D.length ≤ c ∧ ∀ (i : Int) (v : PyData), PySem.Spec.lookup (PyData.int i) D = some v → ∃ j : Nat, v = PyData.int j ∧ ws[j]? = some i
  fns : ∃ a e, (b.fn, listOf a e) ∈ T ∧ a.size ≤ c
  fas : ∃ a e, (b.fa, listOf a e) ∈ T ∧ a.size ≤ c
  frs : ∃ a e, (b.fr, listOf a e) ∈ T ∧ a.size ≤ c
  wlen : ws.length ≤ c
  clen : c ≤ 1000000
  vsys : (b.V == sysModules) = false
  tt : ts[1]? = some (Str.ofString "true", 0, .inl 0)
  tf : ts[2]? = some (Str.ofString "false", 0, .inl 0)
  w0 : ws[0]? = some 0

theorem get_prefix {α : Type} {l l' : List α} {i : Nat} {x : α} (h : l <+: l') (hx : l[i]? = some x) : l'[i]? = some x := by
  obtain ⟨r, rfl⟩ := h
  rw [List.getElem?_append_left (List.getElem?_eq_some_iff.mp hx).1]
  exact hx

abbrev OffB (b : BA) (x : Nat) : Prop := b.Out [2, 3, 4, 5, 6, 7, 8, 9, 10, 11, 12] x
def Keep (b : BA) (p : Addr × Obj) : Prop := p.2.cls = .type "tuple" ∨ @LT.lt Nat _ b.V p.1 ∨ @LT.lt Nat _ p.1 b.M.D ∨ OffB b p.1
def Kept (b : BA) (T T' : Led) : Prop := ∀ p ∈ T, Keep b p → p ∈ T'
theorem Keep.off {b : BA} {p : Addr × Obj} (o : b.Ord) (h : Keep b p) : p.2.cls = .type "tuple" ∨ OffB b p.1 := h.imp id fun h => h.elim (fun h => o.outV rfl (.inl h)) fun h => h.elim (fun h => o.outV rfl (.inr h)) id
theorem BA.Out.sub {b : BA} {ks ks' : List Nat} {x : Nat} (h : b.Out ks x) (q : ks'.all (fun k => ks.contains k) = true) : b.Out ks' x := fun k hk => h k (List.contains_iff_mem.mp (List.all_eq_true.mp q k hk))
section
variable {w : World} {b : BA} {ts : List Term} {ws : List Int} {c : Nat} {T T' : Led}
theorem FB.re {ts' : List Term} {ws' : List Int} {c' : Nat} (h : FB w b ts ws c T) (hc : c ≤ c') (hc' : c' ≤ 1000000) (ht : ts <+: ts') (hw : ws <+: ws') (wl : ws'.length ≤ c') (hs : ∀ o i, i ≤ 1 → (b.adr i, o) ∈ T → (b.adr i, o) ∈ T') (terms : MBank w b.M ts' c' T')
    (names : ∃ a e, (b.ln, listOf a e) ∈ T' ∧ a.size = ws'.length) (widths : ∃ a e, (b.lw, listOf a e) ∈ T' ∧ a.size = ws'.length ∧ ∀ (i : Nat) (x : Int), ws'[i]? = some x → ∃ t, a[i]? = some (Value.int x t))
    (V : ∃ o kvs D, (b.V, o) ∈ T' ∧ o.IsDictOf (intKind PP w) kvs ∧ PyProof.V.FlatPairs PyData.int kvs D ∧ D.length ≤ c' ∧ ∀ (i : Int) (v : PyData), PySem.Spec.lookup (PyData.int i) D = some v → ∃ j : Nat, v = PyData.int j ∧ ws'[j]? = some i)
    (fns : ∃ a e, (b.fn, listOf a e) ∈ T' ∧ a.size ≤ c') (fas : ∃ a e, (b.fa, listOf a e) ∈ T' ∧ a.size ≤ c') (frs : ∃ a e, (b.fr, listOf a e) ∈ T' ∧ a.size ≤ c') : FB w b ts' ws' c' T' where
  ord := h.ord
  terms := terms
  inst := hs _ 1 (Nat.le_refl _) h.inst
  dict := h.dict.imp fun _ q => q.imp fun _ q => ⟨hs _ 0 (Nat.zero_le _) q.1, q.2⟩
  names := names
  widths := widths
  V := V
  fns := fns
  fas := fas
  frs := frs
  wlen := wl
  clen := hc'
  vsys := h.vsys
  tt := get_prefix ht h.tt
  tf := get_prefix ht h.tf
  w0 := get_prefix hw h.w0
theorem FB.n_ (h : FB w b ts ws c T) (hs : ∀ o, (b.adr 2, o) ∈ T → (b.adr 2, o) ∈ T') : ∃ a e, (b.ln, listOf a e) ∈ T' ∧ a.size = ws.length := h.names.imp fun _ q => q.imp fun _ q => ⟨hs _ q.1, q.2⟩
theorem FB.w_ (h : FB w b ts ws c T) (hs : ∀ o, (b.adr 3, o) ∈ T → (b.adr 3, o) ∈ T') : ∃ a e, (b.lw, listOf a e) ∈ T' ∧ a.size = ws.length ∧ ∀ (i : Nat) (x : Int), ws[i]? = some x → ∃ t, a[i]? = some (Value.int x t) := h.widths.imp fun _ q => q.imp fun _ q => ⟨hs _ q.1, q.2⟩
theorem FB.v_ {c' : Nat} (h : FB w b ts ws c T) (hc : c ≤ c') (hs : ∀ o, (b.adr 12, o) ∈ T → (b.adr 12, o) ∈ T') : ∃ o kvs D, (b.V, o) ∈ T' ∧ o.IsDictOf (intKind PP w) kvs ∧ PyProof.V.FlatPairs PyData.int kvs D ∧ D.length ≤ c' ∧ ∀ (i : Int) (v : PyData), PySem.Spec.lookup (PyData.int i) D = some v → ∃ j : Nat, v = PyData.int j ∧ ws[j]? = some i :=
  h.V.imp fun _ q => q.imp fun _ q => q.imp fun _ q => ⟨hs _ q.1, q.2.1, q.2.2.1, Nat.le_trans q.2.2.2.1 hc, q.2.2.2.2⟩
theorem FB.f_ {c' : Nat} (h : FB w b ts ws c T) (hc : c ≤ c') (hs : ∀ o i, 4 ≤ i → i ≤ 6 → (b.adr i, o) ∈ T → (b.adr i, o) ∈ T') : (∃ a e, (b.fn, listOf a e) ∈ T' ∧ a.size ≤ c') ∧ (∃ a e, (b.fa, listOf a e) ∈ T' ∧ a.size ≤ c') ∧ (∃ a e, (b.fr, listOf a e) ∈ T' ∧ a.size ≤ c') :=
  ⟨h.fns.imp fun _ q => q.imp fun _ q => ⟨hs _ 4 (by decide) (by decide) q.1, Nat.le_trans q.2 hc⟩, h.fas.imp fun _ q => q.imp fun _ q => ⟨hs _ 5 (by decide) (by decide) q.1, Nat.le_trans q.2 hc⟩, h.frs.imp fun _ q => q.imp fun _ q => ⟨hs _ 6 (by decide) (by decide) q.1, Nat.le_trans q.2 hc⟩⟩
theorem FB.m_ {c' : Nat} (h : FB w b ts ws c T) (hc : c ≤ c') (hc' : c' ≤ 1000000) (hs : ∀ o i, 7 ≤ i → i ≤ 11 → (b.adr i, o) ∈ T → (b.adr i, o) ∈ T') (ht : ∀ p ∈ T, IsT p.2 → p ∈ T') : MBank w b.M ts c' T' :=
  let ⟨_, _, _, _, _, _, _, _, _, _, mb⟩ := h.terms
  ⟨_, _, _, _, _, _, _, _, _, _, mb.stay hc hc' (hs _ 7 (by decide) (by decide) mb.mops) (hs _ 8 (by decide) (by decide) mb.margs) (hs _ 9 (by decide) (by decide) mb.msorts) (hs _ 10 (by decide) (by decide) mb.mdatas) (hs _ 11 (by decide) (by decide) mb.mN) ht⟩
theorem FB.offG (h : FB w b ts ws c T) (hs : ∀ p ∈ T, (IsT p.2 ∨ (@LE.le Nat _ b.M.D p.1 ∧ @LE.le Nat _ p.1 b.V)) → p ∈ T') : FB w b ts ws c T' :=
  have k : ∀ o i, Nat.ble i 12 = true → (b.adr i, o) ∈ T → (b.adr i, o) ∈ T' := fun o i q hm => hs _ hm (.inr (h.ord.rng i q))
  have f := h.f_ (Nat.le_refl _) fun o i _ q => k o i (Nat.ble_eq_true_of_le (Nat.le_trans q (by decide)))
  h.re (Nat.le_refl _) h.clen (List.prefix_refl _) (List.prefix_refl _) h.wlen (fun o i q => k o i (Nat.ble_eq_true_of_le (Nat.le_trans q (by decide)))) (h.m_ (Nat.le_refl _) h.clen (fun o i _ q => k o i (Nat.ble_eq_true_of_le (Nat.le_trans q (by decide)))) fun p hp q => hs p hp (.inl q)) (h.n_ fun o => k o 2 rfl) (h.w_ fun o => k o 3 rfl) (h.v_ (Nat.le_refl _) fun o => k o 12 rfl) f.1 f.2.1 f.2.2
theorem FB.off (h : FB w b ts ws c T) (hs : ∀ p ∈ T, (IsT p.2 ∨ @LE.le Nat _ p.1 b.V) → p ∈ T') : FB w b ts ws c T' := h.offG fun p hp q => hs p hp (q.imp id And.right)
theorem FB.offD (h : FB w b ts ws c T) (hs : ∀ p ∈ T, (IsT p.2 ∨ @LE.le Nat _ b.M.D p.1) → p ∈ T') : FB w b ts ws c T' := h.offG fun p hp q => hs p hp (q.imp id And.left)
theorem FB.mono (h : FB w b ts ws c T) (hs : ∀ p ∈ T, p ∈ T') : FB w b ts ws c T' := h.offG fun p hp _ => hs p hp
theorem FB.cons {e : Addr × Obj} (h : FB w b ts ws c T) : FB w b ts ws c (e :: T) := h.mono fun _ hp => .tail _ hp
theorem Kept.refl : Kept b T T := fun _ h _ => h
theorem Kept.trans {T'' : Led} (h : Kept b T T') (k : Kept b T' T'') : Kept b T T'' := fun p hp hk => k p (h p hp hk) hk
end

theorem use_specR {w : World} {f : Addr} {sz : Nat} {news : Led} {vs : List Value} {R : Value → Led → Prop} {mean : ExcName → Option Value} {mg mb : Str → Option Value} {dp un : Nat} {gd : Option (List Code)} {cn : Str} {cs : Scope} {a : Addr} {ccd : Value} {cl : List (Str × Addr)} {outer : List Env} {A₀ : Around} {base h₀ : Heap} {L : Addr} {m : Str → Option Value} {s : Shared}
    {Q E : Value → Shared → Prop} (B : Below A₀ base outer h₀) (F : Fr h₀ L s.heap m) (X : (kF w.params).In h₀) (N : News h₀ L s.heap news)
    (T : Top pV (looseW pV looseE) mean mg mb h₀) (hk : cs.kind = .function) (hd : dp + sz < recursionLimit) (hu : un + 8 * sz < cLine) (S : Spec w f sz news vs R)
    (h : ∀ r news' h' tk', Fr h₀ L h' m → News h₀ L h' news' → R r news' → Q r { s with heap := h', toks := tk' }) :
    wpAny (model PP w) (ktrTop dp un gd cn cs L a ccd cl outer) (call (.ref f) vs) Q E s := S mean mg mb dp un gd cn cs a ccd cl outer A₀ base h₀ L m s Q E B F X N T hk hd hu h

inductive Made (w : World) (b : BA) (ts : List Term) (ws : List Int) (c : Nat) (news : Led) (x : Term) (r : Value) (news' : Led) : Prop
  | mk (t : Nat) (tk : Tok) (ts' : List Term) (hr : r = .int t tk) (hp : 0 < t) (hb : FB w b ts' ws c news') (hs : ts <+: ts') (hx : ts'[t]? = some x) (hk : Kept b news news') : Made w b ts ws c news x r news'
theorem spec_makeF (w : World) {b : BA} {ts : List Term} {ws : List Int} {c : Nat} {news : Led} {op : Str} {l : List Int} {a : Addr} {sort : Int} {dat : Sum Int (Int × Int)} {v : Value} {t1 t2 : Tok}
    (hb : FB w b ts ws c news) (hc : c < 1000000) (hl : IntTupIn w news l a) (hd : DtIn w news dat v) (hok : keyOk (op, l, sort, dat)) :
    Spec w 354 3 news [.ref b.M.B, .str op t1, .ref a, .int sort t2, v] (Made w b ts ws (c + 1) news (op, sort, dat)) := by
  obtain ⟨es, n, hD, af⟩ := hb.dict
  refine (spec_make w hb.ord.ma hb.inst hD af.flds hb.terms hc hok hl hd).mono ?_
  rintro r news' ⟨t, tk, ts', hr, h0, hm, hp, ht, hk⟩
  have kp : ∀ o i, b.Out [7, 8, 9, 10, 11] (b.adr i) → (b.adr i, o) ∈ news → (b.adr i, o) ∈ news' := fun o i q hm => hk _ hm (.inl (BA.Out.muts q))
  have f := hb.f_ (Nat.le_succ c) fun o i q r => kp o i (hb.ord.outR 4 6 rfl q r)
  exact ⟨t, tk, ts', hr, h0, hb.re (Nat.le_succ c) hc hp (List.prefix_refl _) (Nat.le_succ_of_le hb.wlen) (fun o i q => kp o i (hb.ord.outR 0 1 rfl (Nat.zero_le _) q)) hm (hb.n_ fun o => kp o 2 (hb.ord.out 2 rfl)) (hb.w_ fun o => kp o 3 (hb.ord.out 3 rfl)) (hb.v_ (Nat.le_succ c) fun o => kp o 12 (hb.ord.out 12 rfl)) f.1 f.2.1 f.2.2, hp, ht, fun p hp hK => hk p hp ((hK.off hb.ord).symm.imp (fun q => (q.sub rfl).muts) id)⟩
def BS (w : World) (b : BA) (nw : Led) : Prop := ∃ ts ws k, FB w b ts ws k nw
def HasT (w : World) (b : BA) (t : Int) (x : Term) (nw : Led) : Prop := ∃ ts ws k, FB w b ts ws k nw ∧ 0 ≤ t ∧ ts[t.toNat]? = some x
def HasW (w : World) (b : BA) (t : Int) (x : Term) (wd : Int) (nw : Led) : Prop := ∃ ts ws k, FB w b ts ws k nw ∧ (0 ≤ t ∧ ts[t.toNat]? = some x) ∧ 0 ≤ x.2.1 ∧ ws[x.2.1.toNat]? = some wd
section
variable {w : World} {b : BA} {t : Int} {x : Term} {wd : Int} {nw : Led} {ts : List Term} {ws : List Int} {k : Nat}
theorem FB.field (h : FB w b ts ws k nw) {nm : Str} {r : Option Value} (q : ∀ es, AF b es → getL nm es = some r) : FieldAt b.M.B b.M.D nm r nw := h.dict.imp fun es d => d.imp fun n d => ⟨h.inst, d.1, q es d.2⟩
theorem BS.field (h : BS w b nw) {nm : Str} {r : Option Value} (q : ∀ es, AF b es → getL nm es = some r) : FieldAt b.M.B b.M.D nm r nw := h.elim fun _ h => h.elim fun _ h => h.elim fun _ fb => fb.field q
theorem HasT.bs (h : HasT w b t x nw) : BS w b nw := h.imp fun _ h => h.imp fun _ h => h.imp fun _ h => h.1
theorem HasW.tm (h : HasW w b t x wd nw) : HasT w b t x nw := h.imp fun _ h => h.imp fun _ h => h.imp fun _ h => ⟨h.1, h.2.1⟩
theorem lt63 {n k : Nat} {t : Int} (h0 : 0 ≤ t) (h : t.toNat < n) (hn : n ≤ k) (hk : k ≤ 1000000) : t < 2 ^ 63 := by omega
theorem HasT.elim {P : Prop} (h : HasT w b t x nw) (q : ∀ ts k ops args sorts datas e1 e2 e3 e4 oN xs, MB w b.M ts k nw ops args sorts datas e1 e2 e3 e4 oN xs → 0 ≤ t → ts[t.toNat]? = some x → t < 2 ^ 63 → P) : P :=
  let ⟨ts, _, k, fb, h0, hx⟩ := h
  let ⟨ops, args, sorts, datas, e1, e2, e3, e4, oN, xs, mb⟩ := fb.terms
  q ts k ops args sorts datas e1 e2 e3 e4 oN xs mb h0 hx (lt63 h0 (List.getElem?_eq_some_iff.mp hx).1 mb.tlen mb.clen)
theorem HasT.ops (h : HasT w b t x nw) : ItemAt b.M.ops t (isS x.1) nw := h.elim fun _ _ _ _ _ _ _ _ _ _ _ _ mb h0 hx lt => (mb.tops _ _ hx).elim fun u hu => ⟨_, _, _, mb.mops, hu, ⟨u, rfl⟩, h0, lt⟩
theorem HasT.sorts (h : HasT w b t x nw) : ItemAt b.M.sorts t (isI x.2.1) nw := h.elim fun _ _ _ _ _ _ _ _ _ _ _ _ mb h0 hx lt => (mb.tsorts _ _ hx).elim fun u hu => ⟨_, _, _, mb.msorts, hu, ⟨u, rfl⟩, h0, lt⟩
theorem HasT.datas (h : HasT w b t x nw) : ItemAt b.M.datas t (DtIn w nw x.2.2) nw := h.elim fun _ _ _ _ _ _ _ _ _ _ _ _ mb h0 hx lt => (mb.tdatas _ _ hx).elim fun u hu => ⟨_, _, _, mb.mdatas, hu.1, hu.2, h0, lt⟩
theorem HasW.width (h : HasW w b t x wd nw) : ItemAt b.lw x.2.1 (isI wd) nw := by
  obtain ⟨ts, ws, k, fb, _, s0, hw⟩ := h
  obtain ⟨wa, we, m2, hwz, hwx⟩ := fb.widths
  obtain ⟨u, hu⟩ := hwx _ _ hw
  exact ⟨_, _, _, m2, hu, ⟨u, rfl⟩, s0, lt63 s0 (List.getElem?_eq_some_iff.mp hw).1 fb.wlen fb.clen⟩
end
section
variable {w : World}
theorem bf_widths : BF w "sort_widths" := ⟨by kernel_rfl, by kernel_rfl⟩
theorem bm_op : BM w "op" 312 := ⟨by kernel_rfl, by kernel_rfl, by kernel_rfl, by kernel_rfl⟩
theorem bm_data : BM w "data" 333 := ⟨by kernel_rfl, by kernel_rfl, by kernel_rfl, by kernel_rfl⟩
theorem bm_width : BM w "width" 340 := ⟨by kernel_rfl, by kernel_rfl, by kernel_rfl, by kernel_rfl⟩
theorem bm_make : BM w "make" 354 := ⟨by kernel_rfl, by kernel_rfl, by kernel_rfl, by kernel_rfl⟩
theorem bm_want : BM w "want" 375 := ⟨by kernel_rfl, by kernel_rfl, by kernel_rfl, by kernel_rfl⟩
theorem bm_want_bits : BM w "want_bits" 660 := ⟨by kernel_rfl, by kernel_rfl, by kernel_rfl, by kernel_rfl⟩
variable {S : Scope} {z : Nat} {c : Fx w S z} {l : FL} {I I1 I2 : Led → Prop} {b : BA} {t : Int} {x : Term} {wd : Int} {a y : Str} {p1 p2 p3 p4 : Pos}
theorem ei_methQ (ps : List Pt) {env : Env} {e : PySem.Expr} {x nm : Str} {p p1 p2 : Pos} {f : Addr} {sz : Nat} {es : List PySem.Expr} {V : Value → Prop} (M : BM w nm f) (hb : Ei c env l I (.Name x p) (isR b.M.B) I) (hfb : ∀ nw, I nw → BS w b nw) (hl : ∀ es, AF b es → getL nm es = some none) (hz : Nat.ble sz z = true) (hs0 : (e :: es).all unstarred = true)
    (ha : EiL c env l I (e :: es) (ps.map Pt.ok) I) (h30 : Nat.ble ((e :: es).length + 1) 30 = true) (hln : (p1.endLine == p2.line) = true) (hs : ∀ nw, I nw → PtE ps fun vs => Spec w f sz nw (.ref b.M.B :: vs) fun r n => n = nw ∧ V r) : Ei c env l I (.Call (.Attribute (.Name x p) nm p1) (e :: es) [] p2) V I :=
  eg_meth M hb (fun nw i => (hfb nw i).field hl) hz hs0 ha (fun vs nw h N j => (pt_elim (hs nw j.2) j.1).mono fun r n q => ⟨q.2, q.1 ▸ j.2⟩) (meth0 rfl hs0 h30 hln)
theorem ei_opOf (hb : Ei c c.env l I (.Name a p1) (isR b.M.B) I) (ht : Ei c c.env l I (.Name y p2) (isI t) I) (hT : ∀ nw, I nw → HasT w b t x nw) : Ei c c.env l I (.Subscript (.Attribute (.Name a p1) "term_ops" p3) (.Name y p2) p4) (isS x.1) I :=
  ei_item (ei_field bf_ops hb (fun nw i => (hT nw i).bs.field fun es af => af.ops) rfl) ht (fun nw i => (hT nw i).ops) fun k => by with_unfolding_all rfl
theorem ei_sortOf (hb : Ei c c.env l I (.Name a p1) (isR b.M.B) I) (ht : Ei c c.env l I (.Name y p2) (isI t) I) (hT : ∀ nw, I nw → HasT w b t x nw) : Ei c c.env l I (.Subscript (.Attribute (.Name a p1) "term_sorts" p3) (.Name y p2) p4) (isI x.2.1) I :=
  ei_item (ei_field bf_sorts hb (fun nw i => (hT nw i).bs.field fun es af => af.sorts) rfl) ht (fun nw i => (hT nw i).sorts) fun k => by with_unfolding_all rfl
end
section
variable (w : World) {b : BA} {ts : List Term} {ws : List Int} {c : Nat} {news : Led} {t sv wd : Int} {tk t2 t3 : Tok} {wh : Str} {x : Term}
theorem spec_op (hb : FB w b ts ws c news) (h0 : 0 ≤ t) (hx : ts[t.toNat]? = some x) :
    Spec w 312 1 news [.ref b.M.B, .int t tk] (fun r news' => news' = news ∧ ∃ t', r = .str x.1 t') :=
  spec_pure (V := isS x.1) (o := o312) (binds := [(Str.ofString "self", Value.ref b.M.B), (Str.ofString "t", .int t tk)]) (by kernel_rfl) rfl (by kernel_rfl) rfl (locs rfl) rfl rfl rfl (by decide) fun c =>
    si_ret (ei_opOf (ei_name rfl) (ei_name rfl) (at_self ⟨ts, ws, _, hb, h0, hx⟩))
theorem spec_data {V : Value → Prop} (hb : FB w b ts ws c news) (h : ItemAt b.M.datas t V news) :
    Spec w 333 1 news [.ref b.M.B, .int t tk] (fun r news' => news' = news ∧ V r) :=
  spec_pure (V := V) (o := o333) (by kernel_rfl) rfl (by kernel_rfl) rfl (locs rfl) rfl rfl rfl (by decide) fun c =>
    si_ret (ei_item (ei_field bf_datas (ei_name rfl) (at_self (hb.field fun es af => af.datas)) rfl) (ei_name rfl) (at_self h) fun k => by with_unfolding_all rfl)
theorem spec_width (hb : FB w b ts ws c news) (h0 : 0 ≤ t) (hx : ts[t.toNat]? = some x) (hs0 : 0 ≤ x.2.1) (hw : ws[x.2.1.toNat]? = some wd) :
    Spec w 340 1 news [.ref b.M.B, .int t tk] (fun r news' => news' = news ∧ ∃ t', r = .int wd t') :=
  have hT := at_self (P := HasW w b t x wd) ⟨ts, ws, _, hb, ⟨h0, hx⟩, hs0, hw⟩
  spec_pure (V := isI wd) (o := o340) (binds := [(Str.ofString "self", Value.ref b.M.B), (Str.ofString "t", .int t tk)]) (by kernel_rfl) rfl (by kernel_rfl) rfl (locs rfl) rfl rfl rfl (by decide) fun c =>
    si_ret (ei_item (ei_field bf_widths (ei_name rfl) (at_self (hb.field fun es af => af.widths)) rfl) (ei_sortOf (ei_name rfl) (ei_name rfl) fun nw i => (hT nw i).tm) (fun nw i => (hT nw i).width) fun k => by with_unfolding_all rfl)
theorem spec_want (hb : FB w b ts ws c news) (h0 : 0 ≤ t) (hx : ts[t.toNat]? = some x) (hs : x.2.1 = sv) :
    Spec w 375 1 news [.ref b.M.B, .int t tk, .int sv t2, .str wh t3] (fun r news' => news' = news ∧ r = .none) :=
  spec_defN (I' := At news) (o := o375) (binds := [(Str.ofString "self", Value.ref b.M.B), (Str.ofString "t", .int t tk), (Str.ofString "s", .int sv t2), (Str.ofString "where", .str wh t3)]) (by kernel_rfl) rfl (by kernel_rfl) rfl (locs rfl) rfl rfl rfl (by decide) (fun c =>
    sr_ifF (ti_to (ti_neI (ei_sortOf (ei_name rfl) (ei_name rfl) (at_self ⟨ts, ws, _, hb, h0, hx⟩)) (ei_name rfl)) (by rw [hs]; exact bne_self_eq_false _)) (sf_nil (fun _ h => h) fun _ _ => fok_nil)) fun n q => ⟨q, rfl⟩
theorem spec_want_bits (hb : FB w b ts ws c news) (h0 : 0 ≤ t) (hx : ts[t.toNat]? = some x) (hs0 : 0 ≤ x.2.1) (hw : ws[x.2.1.toNat]? = some wd) (hwd : 0 < wd) :
    Spec w 660 2 news [.ref b.M.B, .int t tk, .str wh t3] (fun r news' => news' = news ∧ r = .none) :=
  spec_defN (I' := At news) (o := o660) (binds := [(Str.ofString "self", Value.ref b.M.B), (Str.ofString "t", .int t tk), (Str.ofString "where", .str wh t3)]) (by kernel_rfl) rfl (by kernel_rfl) rfl (locs rfl) rfl rfl rfl (by decide) (fun c =>
    sr_ifF (ti_to (ti_eqI (ei_methQ [.I _] (sz := 1) bm_width (ei_name rfl) (at_self ⟨ts, ws, _, hb⟩) (fun es af => af.width) rfl rfl (eil_cons rfl (ei_name rfl) eil_nil) rfl rfl (at_self fun _ => spec_width w hb h0 hx hs0 hw)) ei_int) (beq_eq_false_iff_ne.mpr (Int.ne_of_gt hwd))) (sf_nil (fun _ h => h) fun _ _ => fok_nil)) fun n q => ⟨q, rfl⟩
end

section
variable {w : World}
theorem bf_names : BF w "sort_names" := ⟨by kernel_rfl, by kernel_rfl⟩
theorem bf_V : BF w "bv_numbers" := ⟨by kernel_rfl, by kernel_rfl⟩
theorem bm_bv_sort : BM w "bv_sort" 646 := ⟨by kernel_rfl, by kernel_rfl, by kernel_rfl, by kernel_rfl⟩
end
theorem tab_at {w : World} {h₀ h : Heap} {L d : Addr} {news : Led} {o : Obj} {kvs : List (Int × Value)} {D : List (PyData × PyData)} (N : News h₀ L h news) (hm : (d, o) ∈ news) (ho : o.IsDictOf (intKind PP w) kvs) (hf : PyProof.V.FlatPairs PyData.int kvs D) (lo : (d == sysModules) = false) : IntTab PP w h d D :=
  ⟨lo, kvs, Heap.dictOf_iff.mpr ⟨o, N.get hm, ho⟩, hf⟩
inductive TabN (w : World) (d : Addr) (D : List (PyData × PyData)) (nw : Led) : Prop
  | mk (o : Obj) (kvs : List (Int × Value)) (hm : (d, o) ∈ nw) (ho : o.IsDictOf (intKind PP w) kvs) (hf : PyProof.V.FlatPairs PyData.int kvs D) (lo : (d == sysModules) = false) : TabN w d D nw
theorem TabN.at {w : World} {h₀ h : Heap} {L d : Addr} {nw : Led} {D : List (PyData × PyData)} (t : TabN w d D nw) (N : News h₀ L h nw) : IntTab PP w h d D := let ⟨_, _, hm, ho, hf, lo⟩ := t; tab_at N hm ho hf lo
section
variable {w : World} {S : Scope} {z : Nat} {c : Fx w S z} {l : FL} {I : Led → Prop} {d : Addr} {i : Int} {ea ei : PySem.Expr} {p : Pos}
theorem ti_notin {D : List (PyData × PyData)} (hi : Ei c c.env l I ei (isI i) I) (ha : Ei c c.env l I ea (isR d) I) (hm : ∀ nw, I nw → TabN w d D nw) (hb : behindInMarks .NotIn ea = false) : Et c c.env l I (.Compare ei [.NotIn] [ea] p) (!(PySem.Spec.lookup (.int i) D).isSome) I :=
  ti_cmp hb hi ha fun u v s m news Q E hu hv F N i2 ret => by
    obtain ⟨t1, rfl⟩ := hu
    obtain rfl : v = .ref d := hv
    exact notin_intTab ((hm _ i2).at N) (ret _)
theorem ei_ditem {j : Int} (ha : Ei c c.env l I ea (isR d) I) (hi : Ei c c.env l I ei (isI i) I) (hm : ∀ nw, I nw → ∃ D, TabN w d D nw ∧ PySem.Spec.lookup (.int i) D = some (.int j)) (hs : ∀ t, subscripted ei false (.ref d) (.int i t) = operate [.ref d, .int i t] (getItem (.ref d) (.int i t))):
    Ei c c.env l I (.Subscript ea ei p) (isI j) I := by
  with_unfolding_all
    exact fun m s news Q E fo F N i0 ret =>
      Subscript_ (ha m s news _ E fo F N i0 fun u n0 h0 tk0 F0 N0 j0 => hi m _ n0 _ E fo F0 N0 j0.2 fun v n1 h1 tk1 F1 N1 j1 => by
        obtain ⟨⟨t1, e1⟩, i1⟩ := j1
        obtain rfl : u = .ref d := j0.1
        subst e1
        obtain ⟨D, t, hl⟩ := hm _ i1
        exact tab_tail (t.at N1) (getItem_tab PyProof.V.same_int (intKind_is _ _ _ _) (t.at N1) hl fun v hv => ret v n1 h1 _ F1 N1 ⟨hv.int_inv, i1⟩) (hs _))
theorem ei_fstr {x1 x2 : Str} {e : PySem.Expr} {k1 k2 : Nat} {p1 p2 p3 p4 : Pos} (he : Ei c c.env l I e (isI i) I) (h : i.natAbs.log2 < 1920) (hx : x1.length + x2.length ≤ 1000) :
    Ei c c.env l I (.JoinedStr [.Constant (.str x1) k1 p1, .FormattedValue e (-1) none p2, .Constant (.str x2) k2 p3] p4) (fun _ => True) I := by
  with_unfolding_all
    exact fun m s news Q E fo F N i0 ret =>
      have q : (Str.ofString (toString i)).length ≤ 1921 := by rw [PySem.ofString_length]; exact int_text_length_le (by decide) h
      have e0 : (Str.empty : Str).length = 0 := by decide
      have e1 : sizeLine = 16777216 := rfl
      JoinedStr_many (joinParts_cons (Constant_str ⟨by rw [strLen_append]; omega, joinParts_cons (FormattedValue_plain (he m _ news _ E fo F N i0 fun u n0 h0 tk0 F0 N0 j0 => by
        obtain ⟨⟨t1, e2⟩, i1⟩ := j0
        subst e2
        exact formatField_int_small h ⟨by rw [strLen_append, strLen_append]; omega, joinParts_cons (Constant_str ⟨by rw [strLen_append, strLen_append, strLen_append]; omega, joinParts_nil (ret _ n0 h0 _ F0 N0 ⟨trivial, i1⟩) (by rw [strLen_append, strLen_append, strLen_append]; omega)⟩)⟩))⟩))
end
theorem push_int {a : Array Value} {ws : List Int} {x y : Int} {i : Nat} {t : Tok} (hz : a.size = ws.length) (h : ∀ (i : Nat) (x : Int), ws[i]? = some x → ∃ t, a[i]? = some (Value.int x t)) (hx : (ws ++ [y])[i]? = some x) : ∃ u, (a.push (.int y t))[i]? = some (Value.int x u) := by
  rcases Nat.lt_or_ge i ws.length with q | q
  · rw [List.getElem?_append_left q] at hx
    obtain ⟨u, hu⟩ := h i x hx
    exact ⟨u, push_get hz (fun _ => hu) (fun z => by omega) (by omega)⟩
  · rw [List.getElem?_append_right q] at hx
    rcases Nat.eq_or_lt_of_le q with r | r
    · subst r
      simp at hx
      subst hx
      exact ⟨t, push_get hz (fun z => by omega) (fun _ => rfl) (by omega)⟩
    · rw [List.getElem?_eq_none (by simp; omega)] at hx; cases hx
theorem look_put {ws : List Int} {wd : Int} {D : List (PyData × PyData)} {k : Int} (hk : k = (ws.length : Int)) (h : ∀ (i : Int) (v : PyData), PySem.Spec.lookup (PyData.int i) D = some v → ∃ j : Nat, v = PyData.int j ∧ ws[j]? = some i) :
    ∀ (i : Int) (v : PyData), PySem.Spec.lookup (PyData.int i) (PyProof.V.putD (PyData.int wd) (PyData.int k) D) = some v → ∃ j : Nat, v = PyData.int j ∧ (ws ++ [wd])[j]? = some i := by
  intro i v hv
  by_cases q : i = wd
  · subst q
    rw [PyProof.V.lookup_putD_same] at hv
    cases hv
    exact ⟨ws.length, by rw [hk], by simp⟩
  · rw [PyProof.V.lookup_putD_other q] at hv
    obtain ⟨j, hj, hw⟩ := h i v hv
    exact ⟨j, hj, by rw [List.getElem?_append_left (List.getElem?_eq_some_iff.mp hw).1]; exact hw⟩

inductive SortR (w : World) (b : BA) (ts : List Term) (ws : List Int) (c : Nat) (news : Led) (wd : Int) (r : Value) (news' : Led) : Prop
  | mk (j : Nat) (tk : Tok) (ws' : List Int) (hr : r = .int j tk) (hb : FB w b ts ws' c news') (hs : ws <+: ws') (hx : ws'[j]? = some wd) (hk : Kept b news news') : SortR w b ts ws c news wd r news'
section
variable {w : World} {b : BA} {ts : List Term} {ws : List Int} {k : Nat} {news : Led} {wd : Int} {nm wa : Array Value} {e1 e2 : Nat} {oV : Obj} {kvs : List (Int × Value)} {D : List (PyData × PyData)}
theorem sort_end (hb : FB w b ts ws k news) (hc : k < 1000000) {h₀ h : Heap} {L : Addr} (N : News h₀ L h news) (mn : (b.ln, listOf nm e1) ∈ news) (zn : nm.size = ws.length) (mw : (b.lw, listOf wa e2) ∈ news) (zw : wa.size = ws.length) (hw : ∀ (i : Nat) (x : Int), ws[i]? = some x → ∃ t, wa[i]? = some (Value.int x t))
    (mV : (b.V, oV) ∈ news) (cV : oV.cls = .type "dict") (lV : D.length ≤ k) (vV : ∀ (i : Int) (v : PyData), PySem.Spec.lookup (PyData.int i) D = some v → ∃ j : Nat, v = PyData.int j ∧ ws[j]? = some i) {nw3 : Led} {o' : Obj} {kvs' : List (Int × Value)} {tk : Tok}
    (i3 : UpI b.lw wa e2 (isI wd) (UpI b.ln nm e1 (fun _ => True) (At news)) nw3) (ho : o'.IsDictOf (intKind PP w) kvs') (hf : PyProof.V.FlatPairs PyData.int kvs' (PyProof.V.putD (PyData.int wd) (PyData.int ws.length) D)) : SortR w b ts ws (k + 1) news wd (.int ws.length tk) (upL b.V o' nw3) := by
  have o := hb.ord
  have n23 : b.ln ≠ b.lw := o.ne (i := 2) (j := 3) (by decide) (by decide) (by decide)
  have n2V : b.ln ≠ b.V := o.ne (i := 2) (j := 12) (by decide) (by decide) (by decide)
  have n3V : b.lw ≠ b.V := o.ne (i := 3) (j := 12) (by decide) (by decide) (by decide)
  have kp : ∀ p ∈ news, b.Out [2, 3, 12] p.1 → p ∈ upL b.V o' nw3 := fun p hp q => mem_up (up_kept (P := fun p => p ∈ news ∧ b.Out [2, 3, 12] p.1) (up_kept (fun _ e p hp => by rw [show _ = news from e]; exact hp.1) fun p hp => hp.2 2 (.head _)) (fun p hp => hp.2 3 (.tail _ (.head _))) nw3 i3 p ⟨hp, q⟩) (q 12 (.tail _ (.tail _ (.head _))))
  have tp : ∀ p ∈ news, p.2.cls = .type "tuple" → b.Out [2, 3, 12] p.1 := fun p hp q => by
    have nl : p.2.cls ≠ .type "list" := by rw [q]; decide
    have x2 := newsNe N hp mn nl
    have x3 := newsNe N hp mw nl
    have xV := newsNe N hp mV (by rw [q, cV]; decide)
    intro k hk
    simp only [List.mem_cons, List.not_mem_nil, or_false] at hk
    rcases hk with rfl | rfl | rfl
    · exact x2
    · exact x3
    · exact xV
  obtain ⟨v1, _, m1⟩ := up_memE up_head n23 nw3 i3
  obtain ⟨_, ⟨t2, rfl⟩, m2⟩ := up_head nw3 i3
  have lp := PyProof.V.putD_length_le (PyData.int wd) (PyData.int ws.length) D
  have kc := Nat.le_succ k
  have f := hb.f_ kc fun o i q r hm => kp _ hm (hb.ord.outR 4 6 rfl q r)
  exact ⟨ws.length, tk, ws ++ [wd], rfl, hb.re kc hc (List.prefix_refl _) (List.prefix_append _ _) (by rw [List.length_append]; exact Nat.succ_le_succ hb.wlen) (fun o i q hm => kp _ hm (hb.ord.outR 0 1 rfl (Nat.zero_le _) q))
    (hb.m_ kc hc (fun o i q r hm => kp _ hm (hb.ord.outR 7 11 rfl q r)) fun p hp q => kp p hp (tp p hp q.1))
    ⟨_, _, mem_up m1 n2V, by rw [Array.size_push, List.length_append, zn]; rfl⟩ ⟨_, _, mem_up m2 n3V, by rw [Array.size_push, List.length_append, zw]; rfl, fun i x hx => push_int zw hw hx⟩ ⟨o', kvs', _, .head _, ho, hf, Nat.le_trans lp (Nat.succ_le_succ lV), look_put rfl vV⟩ f.1 f.2.1 f.2.2,
    List.prefix_append _ _, by simp, fun p hp q => kp p hp ((q.off o).elim (tp p hp) fun q => q.sub rfl)⟩
end
theorem spec_bv_sort (w : World) {b : BA} {ts : List Term} {ws : List Int} {c : Nat} {news : Led} {wd : Int} {tk : Tok} (hb : FB w b ts ws c news) (hc : c < 1000000) (h1 : 1 ≤ wd) (h2 : wd ≤ 4096) :
    Spec w 646 2 news [.ref b.M.B, .int wd tk] (SortR w b ts ws (c + 1) news wd) := by
  obtain ⟨nm, e1, mn, zn⟩ := hb.names
  obtain ⟨wa, e2, mw, zw, hwx⟩ := hb.widths
  obtain ⟨oV, kvs, D, mV, dV, fV, lV, vV⟩ := hb.V
  have fW : ∀ {S : Scope} {z : Nat} {c : Fx w S z} {l : FL} {p : Pos} {I : Led → Prop}, c.env.kindOf (Str.ofString "WIDEST") = some .globalImplicit → Ei c c.env l I (.Name (Str.ofString "WIDEST") p) (isI 4096) I := fun hx => ei_imp (ei_globV (v := .int 4096 433) (by kernel_rfl) hx (by decide)) fun u hu => ⟨_, hu⟩
  have n23 : b.ln ≠ b.lw := hb.ord.ne (i := 2) (j := 3) (by decide) (by decide) (by decide)
  have nV2 : b.V ≠ b.ln := hb.ord.ne (i := 12) (j := 2) (by decide) (by decide) (by decide)
  have nV3 : b.V ≠ b.lw := hb.ord.ne (i := 12) (j := 3) (by decide) (by decide) (by decide)
  have cD : @Ne Nat b.M.D b.ln ∧ @Ne Nat b.M.D b.lw := ⟨hb.ord.ne (i := 0) (j := 2) (by decide) (by decide) (by decide), hb.ord.ne (i := 0) (j := 3) (by decide) (by decide) (by decide)⟩
  have cB : @Ne Nat b.M.B b.ln ∧ @Ne Nat b.M.B b.lw := ⟨hb.ord.ne (i := 1) (j := 2) (by decide) (by decide) (by decide), hb.ord.ne (i := 1) (j := 3) (by decide) (by decide) (by decide)⟩
  have zl := Nat.le_trans hb.wlen (Nat.le_of_lt hc)
  have hlg : wd.natAbs.log2 < 1920 := (Nat.log2_lt (by omega)).mpr (Nat.lt_of_le_of_lt (show wd.natAbs ≤ 2 ^ 12 by omega) (Nat.pow_lt_pow_right (by decide) (by decide)))
  obtain ⟨es, n, hD, af⟩ := hb.dict
  have tab : ∀ nw, At news nw → TabN w b.V D nw := at_self ⟨oV, kvs, mV, dV, fV, hb.vsys⟩
  refine spec_def (o := o646) (binds := [(Str.ofString "self", Value.ref b.M.B), (Str.ofString "width", .int wd tk)]) (by kernel_rfl) rfl (by kernel_rfl) rfl (locs rfl) rfl rfl rfl (by decide) fun c _ => sr_news fun h0 N => ?_
  refine sr_ifF (ti_to (ti_ltI (ei_name rfl) ei_int) (decide_eq_false (Int.not_lt.mpr h1))) (sr_ifF (ti_to (ti_gtI (ei_name rfl) (fW (by kernel_rfl))) (decide_eq_false (Int.not_lt.mpr h2))) ?_)
  have self : ∀ {I : Led → Prop} {p : Pos}, Ei c c.env (lOf [(Str.ofString "width", Value.int wd tk), (Str.ofString "self", .ref b.M.B)]) I (.Name (Str.ofString "self") p) (isR b.M.B) I := fun {I p} => ei_name rfl (by kernel_rfl) (by decide)
  have width : ∀ {I : Led → Prop} {p : Pos}, Ei c c.env (lOf [(Str.ofString "width", Value.int wd tk), (Str.ofString "self", .ref b.M.B)]) I (.Name (Str.ofString "width") p) (isI wd) I := fun {I p} => ei_name rfl (by kernel_rfl) (by decide)
  cases hlk : PySem.Spec.lookup (PyData.int wd) D with
  | some v =>
    obtain ⟨j, hv, hj⟩ := vV _ _ hlk
    subst hv
    refine sr_ifF (ti_to (ti_notin width (ei_field bf_V self (at_self ⟨es, n, hb.inst, hD, af.V⟩) rfl) tab rfl) (by rw [hlk]; rfl)) (sr_mono (sr_ret (ei_ditem (ei_field bf_V self (at_self ⟨es, n, hb.inst, hD, af.V⟩) rfl) width (fun nw i => ⟨D, tab nw i, hlk⟩) fun t => by with_unfolding_all rfl)) ?_)
    rintro r nw ⟨⟨tk', rfl⟩, rfl⟩
    exact ⟨j, tk', ws, rfl, hb.re (Nat.le_succ _) hc (List.prefix_refl _) (List.prefix_refl _) (Nat.le_succ_of_le hb.wlen) (fun o i _ hm => hm) (hb.m_ (Nat.le_succ _) hc (fun o i _ _ hm => hm) fun p hp _ => hp) hb.names hb.widths (hb.v_ (Nat.le_succ _) fun o hm => hm) (hb.f_ (Nat.le_succ _) fun o i _ _ hm => hm).1 (hb.f_ (Nat.le_succ _) fun o i _ _ hm => hm).2.1 (hb.f_ (Nat.le_succ _) fun o i _ _ hm => hm).2.2, List.prefix_refl _, hj, Kept.refl⟩
  | none =>
    refine sr_ifN (l' := lOf [(Str.ofString "width", Value.int wd tk), (Str.ofString "self", .ref b.M.B)]) (I2 := fun nw => ∃ o' kvs' nw3, o'.IsDictOf (intKind PP w) kvs' ∧ PyProof.V.FlatPairs PyData.int kvs' (PyProof.V.putD (PyData.int wd) (PyData.int ws.length) D) ∧ nw = upL b.V o' nw3 ∧ UpI b.lw wa e2 (isI wd) (UpI b.ln nm e1 (fun _ => True) (At news)) nw3)
      (ti_to (ti_notin width (ei_field bf_V self (at_self ⟨es, n, hb.inst, hD, af.V⟩) rfl) tab rfl) (by rw [hlk]; rfl)) ?_ (sr_mono (sr_ret (ei_ditem (d := b.V) (j := ws.length) (ei_field (D := b.M.D) bf_V self (fun nw i => ?_) rfl) width (fun nw i => ?_) fun t => by with_unfolding_all rfl)) ?_)
    · have P0 : ∀ nw, At news nw → ∀ p, (p ∈ news ∧ @Ne Nat p.1 b.ln ∧ @Ne Nat p.1 b.lw) → p ∈ nw := fun nw e p hp => by rw [show nw = _ from e]; exact hp.1
      have P1 := up_kept (L := b.ln) (arr := nm) (k := e1) (V := fun _ => True) P0 fun p hp => hp.2.1
      have P2 := up_kept (L := b.lw) (arr := wa) (k := e2) (V := isI wd) P1 fun p hp => hp.2.2
      refine sr_do (ei_append (ei_field bf_names self (at_self ⟨es, n, hb.inst, hD, af.names⟩) rfl) rfl (ei_fstr width hlg (by decide)) (at_self mn) (by omega) (meth0 rfl rfl rfl rfl)) ?_ rfl rfl
      refine sr_do (ei_append (ei_field bf_widths self (fun nw i => ⟨es, n, P1 nw i _ ⟨hb.inst, cB⟩, P1 nw i _ ⟨hD, cD⟩, af.widths⟩) rfl) rfl width (up_mem (at_self mw) (Ne.symm n23)) (by omega) (meth0 rfl rfl rfl rfl)) ?_ rfl rfl
      refine sr_item (V := isI ws.length) (U := isI wd) (W := isR b.V) (ei_eq (ei_sub (ei_len (k := ws.length + 1) (ei_blt (by kernel_rfl) (by decide) (by decide) (by kernel_rfl) (by kernel_rfl)) rfl (ei_field bf_names self (fun nw i => ⟨es, n, P2 nw i _ ⟨hb.inst, cB⟩, P2 nw i _ ⟨hD, cD⟩, af.names⟩) rfl) (fun nw i => (up_memE up_head n23 nw i).elim fun u q => ⟨_, _, q.2, by rw [Array.size_push, zn]⟩) (by omega)) ei_int) (by omega))
        (ei_field bf_V self (fun nw i => ⟨es, n, P2 nw i _ ⟨hb.inst, cB⟩, P2 nw i _ ⟨hD, cD⟩, af.V⟩) rfl) width (fun u v d s m nw Q E hu hv hd F N i ret => ?_) (sf_nil (fun _ i => i) fun m fo => fo) rfl
      obtain ⟨t1, rfl⟩ := hu
      obtain ⟨t2, rfl⟩ := hv
      obtain rfl : d = .ref b.V := hd
      have mV' := P2 nw i _ ⟨mV, nV2, nV3⟩
      exact setItem_K (news := (b.V, oV) :: less b.V nw) (g := fun o' => upL b.V o' nw) PyProof.V.same_int (intKind_is _ _ _ _) (PyProof.V.Flat.int _ _) F (fun p hp => by
        rcases List.mem_cons.mp hp with rfl | hp
        · exact N _ mV'
        · exact N _ (mem_less.mp hp).1) (UpdF.head fun p hp => (mem_less.mp hp).2) dV fV (fun h' o' F' N' hd' hf' => ret h' _ _ F' N' ⟨o', _, nw, hd', hf', rfl, i⟩) (Nat.le_trans lV (Nat.le_trans (Nat.le_of_lt hc) (by decide)))
    · obtain ⟨o', kvs', nw3, ho, hf, rfl, i3⟩ := i
      have P2 := up_kept (L := b.lw) (arr := wa) (k := e2) (V := isI wd) (up_kept (L := b.ln) (arr := nm) (k := e1) (V := fun _ => True) (P := fun p => p ∈ news ∧ @Ne Nat p.1 b.ln ∧ @Ne Nat p.1 b.lw) (fun nw (e : At news nw) p hp => by rw [show nw = _ from e]; exact hp.1) fun p hp => hp.2.1) (fun p hp => hp.2.2) nw3 i3
      exact ⟨es, n, mem_up (P2 _ ⟨hb.inst, cB⟩) (hb.ord.ne (i := 1) (j := 12) (by decide) (by decide) (by decide)), mem_up (P2 _ ⟨hD, cD⟩) (hb.ord.ne (i := 0) (j := 12) (by decide) (by decide) (by decide)), af.V⟩
    · obtain ⟨o', kvs', nw3, ho, hf, rfl, i3⟩ := i
      exact ⟨_, ⟨o', kvs', .head _, ho, hf, hb.vsys⟩, PyProof.V.lookup_putD_same _ _ _⟩
    · rintro r nw ⟨⟨tk', rfl⟩, o', kvs', nw3, ho, hf, rfl, i3⟩
      exact sort_end hb hc N mn zn mw zw hwx mV (dV.elim fun _ q => q.elim fun _ q => q.1.1) lV vV i3 ho hf

def Ext (n nw : Led) : Prop := ∀ p ∈ n, p ∈ nw
theorem items_of {prog : Program} {w : World} : ∀ {l : List Int} {vs : List Value}, Alls (l.map isI) vs → ItemsAre (intKind prog w) l vs
  | [], [], _ => .nil
  | [], _ :: _, h => h.elim
  | _ :: _, [], h => h.elim
  | i :: _, _ :: _, ⟨⟨t, e⟩, h⟩ => .cons (by rw [e]; exact intKind_is _ _ i t) (items_of h)
inductive MkR (w : World) (b : BA) (op : Str) (l : List Int) (D : Addr) (J : Value → Led → Prop) (vs : List Value) (nw : Led) : Prop
  | mk (so : Int) (tk : Tok) (dat : Sum Int (Int × Int)) (v : Value) (ts : List Term) (ws : List Int) (k : Nat) (e : vs = [.int so tk, v]) (fb : FB w b ts ws k nw) (hk : k < 1000000) (hok : keyOk (op, l, so, dat)) (ht : IntTupIn w nw l D) (hd : DtIn w nw dat v) (fin : ∀ r n, Made w b ts ws (k + 1) nw (op, so, dat) r n → J r n) : MkR w b op l D J vs nw
section
variable {w : World} {S : Scope} {z : Nat} {c : Fx w S z} {env : Env} {l : FL} {I : Led → Prop} {J : Value → Led → Prop} {b : BA} {ts : List Term} {ws : List Int} {k : Nat} {news : Led} {a y : Str} {p0 p1 p2 p3 p4 p5 p6 p7 p8 : Pos} {op : Str} {is : List Int} {eop e3 e4 : PySem.Expr} {es : List PySem.Expr} {tk : Nat}
theorem eg_makeG (hb : FB w b ts ws k news) (hself : Ei c env l (At news) (.Name a p0) (isR b.M.B) (At news)) (hop : Ei c env l (At news) eop (isS op) (At news)) (ha : EiL c env l (At news) es (is.map isI) (At news)) (hz : Nat.ble 3 z = true) (hu : [eop, e3, e4].all unstarred = true) (hl : Nat.ble is.length 1000 = true) (hln : (p1.endLine == p2.line) = true)
    (h34 : ∀ D, EgL c env l (fun nw => IntTupIn w nw is D ∧ Ext news nw) [e3, e4] (MkR w b op is D J)) : Eg c env l (At news) (.Call (.Attribute (.Name a p0) (Str.ofString "make") p1) [eop, .Tuple es tk p3, e3, e4] [] p2) J := by
  with_unfolding_all
    exact have u1 := Bool.and_eq_true_iff.mp hu
      have us : [eop, .Tuple es tk p3, e3, e4].all unstarred = true := Bool.and_eq_true_iff.mpr ⟨u1.1, u1.2⟩
      eg_meth (sz := 3) (JA := fun vs nw => ∃ t1 D us, vs = .str op t1 :: .ref D :: us ∧ MkR w b op is D J us nw) bm_make hself (at_self (hb.field fun es af => af.make)) hz us
        (egl_cons u1.1 hop fun u => egl_and fun ⟨t1, e1⟩ => egl_cons rfl (eg_mono (J1 := fun u nw => ∃ D, u = .ref D ∧ IntTupIn w nw is D ∧ Ext news nw) (eg_tuple ha fun vs nw j => by rw [alls_len j.1, List.length_map]; exact Nat.le_of_ble_eq_true hl) fun u nw ⟨D, vs, nw0, q1, q2, q3, _⟩ => ⟨D, q1, ⟨_, 0, by rw [q2]; exact .head _, items_of q3.1⟩, by rw [q2, show nw0 = news from q3.2]; exact fun p hp => .tail _ hp⟩)
          fun u => egl_ex fun D => egl_and fun e2 => fun pos m s nw Q E fo F N i ret => h34 D pos m s nw Q E fo F N i fun vs nw' h' tk' F' N' j => ret vs nw' h' tk' F' N' ⟨t1, D, vs, by rw [e1, e2], j⟩)
        (fun vs nw h N ⟨t1, D, us, e, j⟩ => by
          obtain ⟨so, tk, dat, v, ts, ws, k, e3, fb, hk, hok, ht, hd, fin⟩ := j
          subst e3 e
          exact (spec_makeF w fb hk ht hd hok).mono fin) (meth0 rfl us rfl hln)
theorem Made.ext {x : Term} {n1 n' : Led} {r : Value} (h : Made w b ts ws k n1 x r n') (q : Ext news n1) : Made w b ts ws k news x r n' :=
  let ⟨t, tk, ts', hr, hp, hb, hs, hx, hk⟩ := h
  ⟨t, tk, ts', hr, hp, hb, hs, hx, fun p hp q' => hk p (q p hp) q'⟩
def DatE (c : Fx w S z) (env : Env) (l : FL) (e : PySem.Expr) (dat : Sum Int (Int × Int)) : Prop := ∀ I : Led → Prop, Eg c env l I e fun u nw => ∃ n0, I n0 ∧ Ext n0 nw ∧ DtIn w nw dat u
theorem dat_int {i : Int} {e : PySem.Expr} (h : ∀ I, Ei c env l I e (isI i) I) : DatE c env l e (.inl i) := fun I => eg_mono (h I) fun u nw j => ⟨nw, j.2, fun _ h => h, j.1⟩
theorem dat_pair {i j : Int} {e1 e2 : PySem.Expr} {tk : Nat} (hu : [e1, e2].all unstarred = true) (h1 : ∀ I, Ei c env l I e1 (isI i) I) (h2 : ∀ I, Ei c env l I e2 (isI j) I) : DatE c env l (.Tuple [e1, e2] tk p1) (.inr (i, j)) := fun I =>
  have u1 := Bool.and_eq_true_iff.mp hu
  eg_mono (eg_tuple (eil_cons u1.1 (h1 I) (eil_cons (Bool.and_eq_true_iff.mp u1.2).1 (h2 I) eil_nil)) fun vs nw j => by rw [alls_len j.1]; exact Nat.le_of_ble_eq_true rfl) fun u nw ⟨D, vs, nw0, q1, q2, q3, _⟩ =>
    ⟨nw0, q3.2, fun p hp => by rw [q2]; exact .tail _ hp, D, q1, _, 0, by rw [q2]; exact .head _, items_of (l := [i, j]) q3.1⟩
theorem eg_makeA {so : Int} {dat : Sum Int (Int × Int)} (hb : FB w b ts ws k news) (hk : k < 1000000) (hok : keyOk (op, is, so, dat)) (hself : Ei c env l (At news) (.Name a p0) (isR b.M.B) (At news)) (hop : Ei c env l (At news) eop (isS op) (At news)) (ha : EiL c env l (At news) es (is.map isI) (At news)) (hz : Nat.ble 3 z = true) (hu : [eop, e3, e4].all unstarred = true) (hl : Nat.ble is.length 1000 = true) (hln : (p1.endLine == p2.line) = true)
    (h3 : ∀ I : Led → Prop, (∀ nw, I nw → Ext news nw) → Ei c env l I e3 (isI so) I) (h4 : DatE c env l e4 dat) : Eg c env l (At news) (.Call (.Attribute (.Name a p0) (Str.ofString "make") p1) [eop, .Tuple es tk p3, e3, e4] [] p2) (Made w b ts ws (k + 1) news (op, so, dat)) :=
  have u1 := Bool.and_eq_true_iff.mp (Bool.and_eq_true_iff.mp hu).2
  eg_makeG hb hself hop ha hz hu hl hln fun D => egl_cons u1.1 (h3 _ fun nw i => i.2) fun u => egl_and fun ⟨tk, e⟩ => egl_cons (Bool.and_eq_true_iff.mp u1.2).1 (h4 _) fun v => egl_nil fun nw ⟨n0, i, q, d⟩ =>
    ⟨so, tk, dat, v, ts, ws, k, by rw [e], hb.mono fun p hp => q p (i.2 p hp), hk, hok, i.1.monoT fun p hp _ => q p hp, d, fun r n m => m.ext fun p hp => q p (i.2 p hp)⟩
inductive MadeS (w : World) (b : BA) (ts : List Term) (ws : List Int) (c : Nat) (news : Led) (op : Str) (dat : Sum Int (Int × Int)) (wd : Int) (r : Value) (news' : Led) : Prop
  | mk (t : Nat) (tk : Tok) (ts' : List Term) (ws' : List Int) (j : Nat) (hr : r = .int t tk) (hp : 0 < t) (hb : FB w b ts' ws' c news') (hs : ts <+: ts') (hs' : ws <+: ws') (hx : ts'[t]? = some (op, (j : Int), dat)) (hw : ws'[j]? = some wd) (hk : Kept b news news') : MadeS w b ts ws c news op dat wd r news'
theorem eg_makeB {wd : Int} {dat : Sum Int (Int × Int)} {e5 : PySem.Expr} (hb : FB w b ts ws k news) (hk : k + 2 ≤ 1000000) (h1 : 1 ≤ wd) (h2 : wd ≤ 4096) (hok : ∀ so, keyOk (op, is, so, dat)) (hself : ∀ I : Led → Prop, Ei c env l I (.Name a p0) (isR b.M.B) I) (hself2 : ∀ I : Led → Prop, Ei c env l I (.Name a p5) (isR b.M.B) I) (hop : Ei c env l (At news) eop (isS op) (At news)) (ha : EiL c env l (At news) es (is.map isI) (At news)) (hz : Nat.ble 3 z = true) (hu : [eop, e4, e5].all unstarred = true) (hl : Nat.ble is.length 1000 = true) (hln : (p1.endLine == p2.line) = true) (hln2 : (p6.endLine == p7.line) = true)
    (h3 : ∀ I : Led → Prop, (∀ nw, I nw → Ext news nw) → Ei c env l I e5 (isI wd) I) (h4 : DatE c env l e4 dat) : Eg c env l (At news) (.Call (.Attribute (.Name a p0) (Str.ofString "make") p1) [eop, .Tuple es tk p3, .Call (.Attribute (.Name a p5) (Str.ofString "bv_sort") p6) [e5] [] p7, e4] [] p2) (MadeS w b ts ws (k + 2) news op dat wd) := by
  with_unfolding_all
    exact have u0 := Bool.and_eq_true_iff.mp hu
      have u1 := Bool.and_eq_true_iff.mp u0.2
      have us : [e5].all unstarred = true := u1.2
      eg_makeG hb (hself _) hop ha hz (Bool.and_eq_true_iff.mpr ⟨u0.1, Bool.and_eq_true_iff.mpr ⟨rfl, Bool.and_eq_true_iff.mpr ⟨u1.1, rfl⟩⟩⟩) hl hln fun D => egl_cons rfl (eg_mono (J1 := fun u nw => ∃ n1, (IntTupIn w n1 is D ∧ Ext news n1) ∧ SortR w b ts ws (k + 1) n1 wd u nw)
          (eg_meth (sz := 2) (JA := fun vs nw => Alls [isI wd] vs ∧ (IntTupIn w nw is D ∧ Ext news nw)) bm_bv_sort (hself2 _) (fun nw i => (hb.mono i.2).field fun es af => af.bv_sort) (Nat.ble_eq_true_of_le (Nat.le_trans (by decide) (Nat.le_of_ble_eq_true hz))) us (eil_cons (Bool.and_eq_true_iff.mp us).1 (h3 _ fun nw i => i.2) eil_nil)
            (fun vs nw h N j => pt_elim (ps := [.I wd]) (P := fun vs => Spec w 646 2 nw (.ref b.M.B :: vs) _) (fun t => (spec_bv_sort w (hb.mono j.2.2) (by omega) h1 h2).mono fun r n q => ⟨nw, j.2, q⟩) j.1) (meth0 rfl us rfl hln2)) fun _ _ q => q)
        fun u => egl_ex fun n1 => egl_and fun i => fun pos m s nw Q E fo F N q ret => by
          obtain ⟨j, tj, ws', e, fb, hp, hx, kk⟩ := q
          exact (egl_cons (I := At nw) u1.1 (h4 _) fun v => egl_nil (J := fun vs nw' => MkR w b op is D (MadeS w b ts ws (k + 2) news op dat wd) (u :: v :: vs) nw') fun nw' ⟨n0, e0, q, d⟩ => by
            obtain rfl : n0 = nw := e0
            exact ⟨j, tj, dat, v, ts, ws', k + 1, by rw [e], fb.mono q, by omega, hok _, (i.1.monoT fun p hp q' => kk p hp (.inl q'.1)).monoT fun p hp _ => q p hp, d, fun r n ⟨t, tk, ts', hr, h0, fb2, hs, hx2, kk2⟩ => ⟨t, tk, ts', ws', j, hr, h0, fb2, hs, hp, hx2, hx, fun p hp q' => kk2 p (q p (kk p (i.2 p hp) q')) q'⟩⟩) pos m s nw Q E fo F N rfl ret
end

section
variable {w : World}
theorem bm_declare : BM w "declare_fun" 263 := ⟨by kernel_rfl, by kernel_rfl, by kernel_rfl, by kernel_rfl⟩
theorem bf_tru : BF w "true_number" := ⟨by kernel_rfl, by kernel_rfl⟩
theorem bf_fal : BF w "false_number" := ⟨by kernel_rfl, by kernel_rfl⟩
variable {S : Scope} {z : Nat} {c : Fx w S z} {l : FL} {I : Led → Prop} {b : BA} {ts : List Term} {ws : List Int} {k : Nat} {news : Led} {t sv wd : Int} {x : Term} {wh a : Str} {e1 e2 e3 : PySem.Expr} {p0 p1 p2 : Pos}
theorem ei_bool {p : Pos} (hx : c.env.kindOf (Str.ofString "BOOL") = some .globalImplicit) : Ei c c.env l I (.Name (Str.ofString "BOOL") p) (isI 0) I := ei_imp (ei_globV (v := .int 0 427) (by kernel_rfl) hx (by decide)) fun u hu => ⟨_, hu⟩
theorem ei_wb (hb : FB w b ts ws k news) (h0 : 0 ≤ t) (hx : ts[t.toNat]? = some x) (hs0 : 0 ≤ x.2.1) (hw : ws[x.2.1.toNat]? = some wd) (hwd : 0 < wd) (hself : Ei c c.env l (At news) (.Name a p0) (isR b.M.B) (At news)) (h1 : Ei c c.env l (At news) e1 (isI t) (At news)) (h2 : Ei c c.env l (At news) e2 (isS wh) (At news)) (hz : Nat.ble 2 z = true) (hu : [e1, e2].all unstarred = true) (hl : (p1.endLine == p2.line) = true) :
    Ei c c.env l (At news) (.Call (.Attribute (.Name a p0) (Str.ofString "want_bits") p1) [e1, e2] [] p2) (fun u => u = .none) (At news) :=
  have u1 := Bool.and_eq_true_iff.mp hu
  ei_methQ [.I t, .S wh] bm_want_bits hself (at_self ⟨ts, ws, k, hb⟩) (fun es af => af.want_bits) hz hu (eil_cons u1.1 h1 (eil_cons (Bool.and_eq_true_iff.mp u1.2).1 h2 eil_nil)) rfl hl (at_self fun _ _ => spec_want_bits w hb h0 hx hs0 hw hwd)
theorem ei_want (hb : FB w b ts ws k news) (h0 : 0 ≤ t) (hx : ts[t.toNat]? = some x) (hs : x.2.1 = sv) (hself : Ei c c.env l (At news) (.Name a p0) (isR b.M.B) (At news)) (h1 : Ei c c.env l (At news) e1 (isI t) (At news)) (h2 : Ei c c.env l (At news) e2 (isI sv) (At news)) (h3 : Ei c c.env l (At news) e3 (isS wh) (At news)) (hz : Nat.ble 1 z = true) (hu : [e1, e2, e3].all unstarred = true) (hl : (p1.endLine == p2.line) = true) :
    Ei c c.env l (At news) (.Call (.Attribute (.Name a p0) (Str.ofString "want") p1) [e1, e2, e3] [] p2) (fun u => u = .none) (At news) :=
  have u1 := Bool.and_eq_true_iff.mp hu
  have u2 := Bool.and_eq_true_iff.mp u1.2
  ei_methQ [.I t, .I sv, .S wh] bm_want hself (at_self ⟨ts, ws, k, hb⟩) (fun es af => af.want) hz hu (eil_cons u1.1 h1 (eil_cons u2.1 h2 (eil_cons (Bool.and_eq_true_iff.mp u2.2).1 h3 eil_nil))) rfl hl (at_self fun _ _ _ => spec_want w hb h0 hx hs)
theorem ei_width (hW : ∀ nw, I nw → HasW w b t x wd nw) (hself : Ei c c.env l I (.Name a p0) (isR b.M.B) I) (h1 : Ei c c.env l I e1 (isI t) I) (hz : Nat.ble 1 z = true) (hu : unstarred e1 = true) (hl : (p1.endLine == p2.line) = true) : Ei c c.env l I (.Call (.Attribute (.Name a p0) (Str.ofString "width") p1) [e1] [] p2) (isI wd) I :=
  ei_methQ [.I t] bm_width hself (fun nw i => (hW nw i).tm.bs) (fun es af => af.width) hz (Bool.and_eq_true_iff.mpr ⟨hu, rfl⟩) (eil_cons hu h1 eil_nil) rfl hl fun nw i _ => let ⟨_, _, _, fb, q, s0, hw⟩ := hW nw i; spec_width w fb q.1 q.2 s0 hw
theorem HasW.ext {n1 : Led} (h : HasW w b t x wd news) (q : Ext news n1) : HasW w b t x wd n1 := h.imp fun _ h => h.imp fun _ h => h.imp fun _ h => ⟨h.1.mono q, h.2⟩
theorem ti_inT {β : Bool} {fn : Str} {p p9 : Pos} {d : Addr} {items : Array Value} {n : Nat} {dd : Option Addr} {sl : Array (Option Value)} {ys : List Str} {y : Str} (ha : Ei c c.env l I e1 (isS y) I) (hx : c.env.kindOf fn = some .globalImplicit) (hd : (fn == ("__debug__" : Str)) = false) (hf : nsIn (kF w.params) mainGlobals fn = some (some (.ref d))) (hl : (kF w.params).lookup d = some ⟨.type "tuple", dd, .seq items n, sl⟩) (hi : StrsAre items.toList ys) (hb : ys.any (· == y) = β) :
    Et c c.env l I (.Compare e1 [.In] [.Name fn p] p9) β I := ti_cmp rfl ha (ei_glob hx hd hf) fun u v s m news Q E hu hv F N i2 ret => by
  obtain ⟨t1, rfl⟩ := hu
  obtain rfl : v = .ref d := hv
  exact in_tuple_strs ⟨_, (c.X.keeps F.keep) _ _ hl, rfl, n, rfl⟩ hi (by rw [hb]; exact ret _)
end
theorem keyOk_inl {op : Str} {l : List Int} {so i : Int} (h : (op == Str.ofString "extract") = false) : keyOk (op, l, so, .inl i) := h.symm
section
variable (w : World) {b : BA} {ts : List Term} {ws : List Int} {c : Nat} {news : Led} {op : Str} {t u wd we : Int} {t1 t2 tk tl : Tok} {x y : Term} (hb : FB w b ts ws c news)
include hb
theorem spec_bv_one (hc : c < 1000000) (h0 : 0 ≤ t) (hx : ts[t.toNat]? = some x) (hs0 : 0 ≤ x.2.1) (hw : ws[x.2.1.toNat]? = some wd) (hwd : 0 < wd) (hop : op = Str.ofString "bvnot" ∨ op = Str.ofString "bvneg") :
    Spec w 674 4 news [.ref b.M.B, .str op t1, .int t tk] (Made w b ts ws (c + 1) news (op, x.2.1, .inl 0)) :=
  spec_def (o := o674) (binds := [(Str.ofString "self", Value.ref b.M.B), (Str.ofString "op", .str op t1), (Str.ofString "t", .int t tk)]) (by kernel_rfl) rfl (by kernel_rfl) rfl (locs rfl) rfl rfl rfl (by decide) fun c _ =>
    sr_do (ei_wb hb h0 hx hs0 hw hwd (ei_name rfl) (ei_name rfl) (ei_name rfl) rfl rfl rfl) (sr_ifF (by
      rcases hop with rfl | rfl
      · exact ti_andF (ti_to (ti_neS (ei_name rfl) ei_str) (by decide))
      · exact ti_andT (ti_to (ti_neS (ei_name rfl) ei_str) (by decide)) (ti_andF (ti_to (ti_neS (ei_name rfl) ei_str) (by decide)))) (sr_ret (eg_makeA (is := [t]) hb hc (keyOk_inl (by rcases hop with rfl | rfl <;> decide)) (ei_name rfl) (ei_name rfl) (eil_cons rfl (ei_name rfl) eil_nil) rfl rfl rfl rfl (fun I q => ei_sortOf (ei_name rfl) (ei_name rfl) fun nw i => ⟨ts, ws, _, hb.mono (q nw i), h0, hx⟩) (dat_int fun I => ei_int)))) rfl rfl
def Two (op : Str) : Prop := op = Str.ofString "bvand" ∨ op = Str.ofString "bvor" ∨ op = Str.ofString "bvxor" ∨ op = Str.ofString "bvadd" ∨ op = Str.ofString "bvsub" ∨ op = Str.ofString "bvmul" ∨ op = Str.ofString "bvshl" ∨ op = Str.ofString "bvlshr" ∨ op = Str.ofString "bvudiv" ∨ op = Str.ofString "bvurem"
omit hb in
theorem two_same (hop : Two op) : ([Str.ofString "bvand", Str.ofString "bvor", Str.ofString "bvxor", Str.ofString "bvadd", Str.ofString "bvsub", Str.ofString "bvmul", Str.ofString "bvshl", Str.ofString "bvlshr", Str.ofString "bvudiv", Str.ofString "bvurem"] : List Str).any (· == op) = true ∧ (op == Str.ofString "extract") = false ∧ (op == Str.ofString "concat") = false := by
  unfold Two at hop
  rcases hop with rfl | rfl | rfl | rfl | rfl | rfl | rfl | rfl | rfl | rfl <;> decide
omit hb in
theorem same_strs : StrsAre (#[Value.str (Str.ofString "bvand") 439, .str (Str.ofString "bvor") 440, .str (Str.ofString "bvxor") 441, .str (Str.ofString "bvadd") 442, .str (Str.ofString "bvsub") 443, .str (Str.ofString "bvmul") 444, .str (Str.ofString "bvshl") 445, .str (Str.ofString "bvlshr") 446, .str (Str.ofString "bvudiv") 447, .str (Str.ofString "bvurem") 448] : Array Value).toList [Str.ofString "bvand", Str.ofString "bvor", Str.ofString "bvxor", Str.ofString "bvadd", Str.ofString "bvsub", Str.ofString "bvmul", Str.ofString "bvshl", Str.ofString "bvlshr", Str.ofString "bvudiv", Str.ofString "bvurem"] :=
  .cons _ _ (.cons _ _ (.cons _ _ (.cons _ _ (.cons _ _ (.cons _ _ (.cons _ _ (.cons _ _ (.cons _ _ (.cons _ _ .nil)))))))))
theorem spec_bv_two (hc : c < 1000000) (h0 : 0 ≤ t) (hx : ts[t.toNat]? = some x) (hs0 : 0 ≤ x.2.1) (hw : ws[x.2.1.toNat]? = some wd) (hwd : 0 < wd) (g0 : 0 ≤ u) (gx : ts[u.toNat]? = some y) (hyx : y.2.1 = x.2.1) (hop : Two op) :
    Spec w 681 4 news [.ref b.M.B, .str op t1, .int t tk, .int u tl] (Made w b ts ws (c + 1) news (op, x.2.1, .inl 0)) :=
  spec_def (o := o681) (binds := [(Str.ofString "self", Value.ref b.M.B), (Str.ofString "op", .str op t1), (Str.ofString "a", .int t tk), (Str.ofString "b", .int u tl)]) (by kernel_rfl) rfl (by kernel_rfl) rfl (locs rfl) rfl rfl rfl (by decide) fun c _ =>
    sr_do (ei_wb hb h0 hx hs0 hw hwd (ei_name rfl) (ei_name rfl) (ei_name rfl) rfl rfl rfl) (sr_do (ei_want hb g0 gx hyx (ei_name rfl) (ei_name rfl) (ei_sortOf (ei_name rfl) (ei_name rfl) (at_self ⟨ts, ws, _, hb, h0, hx⟩)) (ei_name rfl) rfl rfl rfl)
      (sr_if (ti_inT (d := 206) (dd := none) (n := 0) (sl := #[]) (ei_name rfl) (by kernel_rfl) (by decide) (by kernel_rfl) (by kernel_rfl) same_strs (two_same hop).1) (fun _ => sr_ret (eg_makeA (is := [t, u]) hb hc (keyOk_inl (two_same hop).2.1) (ei_name rfl) (ei_name rfl) (eil_cons rfl (ei_name rfl) (eil_cons rfl (ei_name rfl) eil_nil)) rfl rfl rfl rfl (fun I q => ei_sortOf (ei_name rfl) (ei_name rfl) fun nw i => ⟨ts, ws, _, hb.mono (q nw i), h0, hx⟩) (dat_int fun I => ei_int))) fun q => by cases q) rfl rfl) rfl rfl
omit hb in
theorem ask_strs : StrsAre (#[Value.str (Str.ofString "bvult") 450, .str (Str.ofString "bvule") 451, .str (Str.ofString "bvslt") 452, .str (Str.ofString "bvsle") 453] : Array Value).toList [Str.ofString "bvult", Str.ofString "bvule", Str.ofString "bvslt", Str.ofString "bvsle"] :=
  .cons _ _ (.cons _ _ (.cons _ _ (.cons _ _ .nil)))
theorem spec_bv_ask (hc : c < 1000000) (h0 : 0 ≤ t) (hx : ts[t.toNat]? = some x) (hs0 : 0 ≤ x.2.1) (hw : ws[x.2.1.toNat]? = some wd) (hwd : 0 < wd) (g0 : 0 ≤ u) (gx : ts[u.toNat]? = some y) (hyx : y.2.1 = x.2.1) (hop : op = Str.ofString "bvult" ∨ op = Str.ofString "bvsle") :
    Spec w 681 4 news [.ref b.M.B, .str op t1, .int t tk, .int u tl] (Made w b ts ws (c + 1) news (op, 0, .inl 0)) :=
  spec_def (o := o681) (binds := [(Str.ofString "self", Value.ref b.M.B), (Str.ofString "op", .str op t1), (Str.ofString "a", .int t tk), (Str.ofString "b", .int u tl)]) (by kernel_rfl) rfl (by kernel_rfl) rfl (locs rfl) rfl rfl rfl (by decide) fun c _ =>
    sr_do (ei_wb hb h0 hx hs0 hw hwd (ei_name rfl) (ei_name rfl) (ei_name rfl) rfl rfl rfl) (sr_do (ei_want hb g0 gx hyx (ei_name rfl) (ei_name rfl) (ei_sortOf (ei_name rfl) (ei_name rfl) (at_self ⟨ts, ws, _, hb, h0, hx⟩)) (ei_name rfl) rfl rfl rfl)
      (sr_if (ti_inT (d := 206) (dd := none) (n := 0) (sl := #[]) (β := false) (ei_name rfl) (by kernel_rfl) (by decide) (by kernel_rfl) (by kernel_rfl) same_strs (by rcases hop with rfl | rfl <;> decide)) (fun q => by cases q) fun _ =>
        sr_if (ti_inT (d := 207) (dd := none) (n := 0) (sl := #[]) (β := true) (ei_name rfl) (by kernel_rfl) (by decide) (by kernel_rfl) (by kernel_rfl) ask_strs (by rcases hop with rfl | rfl <;> decide)) (fun _ => sr_ret (eg_makeA (is := [t, u]) hb hc (keyOk_inl (by rcases hop with rfl | rfl <;> decide)) (ei_name rfl) (ei_name rfl) (eil_cons rfl (ei_name rfl) (eil_cons rfl (ei_name rfl) eil_nil)) rfl rfl rfl rfl (fun I q => ei_bool (by kernel_rfl)) (dat_int fun I => ei_int))) fun q => by cases q) rfl rfl) rfl rfl
theorem spec_bit {i : Int} {ti : Tok} (hc : c + 2 ≤ 1000000) (h0 : 0 ≤ t) (hx : ts[t.toNat]? = some x) (hs0 : 0 ≤ x.2.1) (hw : ws[x.2.1.toNat]? = some wd) (hwd : 0 < wd) (hi0 : 0 ≤ i) (hi1 : i < wd) :
    Spec w 723 4 news [.ref b.M.B, .int i ti, .int t tk] (Made w b ts ws (c + 1) news (Str.ofString "bit", 0, .inl i)) :=
  spec_def (o := o723) (binds := [(Str.ofString "self", Value.ref b.M.B), (Str.ofString "i", .int i ti), (Str.ofString "t", .int t tk)]) (by kernel_rfl) rfl (by kernel_rfl) rfl (locs rfl) rfl rfl rfl (by decide) fun c _ =>
    sr_do (ei_wb hb h0 hx hs0 hw hwd (ei_name rfl) (ei_name rfl) ei_str rfl rfl rfl) (sr_ifF (ti_to (ti_not (ti_chain ei_int (ec_le (ei_name rfl) hi0 (ec_lt (ei_width (at_self ⟨ts, ws, _, hb, ⟨h0, hx⟩, hs0, hw⟩) (ei_name rfl) (ei_name rfl) rfl rfl rfl))) rfl)) (by rw [decide_eq_true hi1]; rfl))
      (sr_ret (eg_makeA (is := [t]) hb (Nat.lt_of_succ_lt hc) rfl (ei_name rfl) ei_str (eil_cons rfl (ei_name rfl) eil_nil) rfl rfl rfl rfl (fun I q => ei_bool (by kernel_rfl)) (dat_int fun I => (ei_name rfl))))) rfl rfl
theorem spec_concat (hc : c + 2 ≤ 1000000) (h0 : 0 ≤ t) (hx : ts[t.toNat]? = some x) (hs0 : 0 ≤ x.2.1) (hw : ws[x.2.1.toNat]? = some wd) (hwd : 0 < wd) (g0 : 0 ≤ u) (gx : ts[u.toNat]? = some y) (gs0 : 0 ≤ y.2.1) (gw : ws[y.2.1.toNat]? = some we) (gwd : 0 < we) (hww : wd + we ≤ 4096) :
    Spec w 688 4 news [.ref b.M.B, .int t tk, .int u tl] (MadeS w b ts ws (c + 2) news (Str.ofString "concat") (.inl 0) (wd + we)) :=
  spec_def (o := o688) (binds := [(Str.ofString "self", Value.ref b.M.B), (Str.ofString "a", .int t tk), (Str.ofString "b", .int u tl)]) (by kernel_rfl) rfl (by kernel_rfl) rfl (locs rfl) rfl rfl rfl (by decide) fun c _ =>
    sr_do (ei_wb hb h0 hx hs0 hw hwd (ei_name rfl) (ei_name rfl) ei_str rfl rfl rfl) (sr_do (ei_wb hb g0 gx gs0 gw gwd (ei_name rfl) (ei_name rfl) ei_str rfl rfl rfl)
      (sr_ret (eg_makeB (is := [t, u]) hb hc (Int.add_le_add (Int.le_of_lt hwd) gwd) hww (fun so => rfl) (fun I => (ei_name rfl)) (fun I => (ei_name rfl)) ei_str (eil_cons rfl (ei_name rfl) (eil_cons rfl (ei_name rfl) eil_nil)) rfl rfl rfl rfl rfl (fun I q => ei_add (ei_width (fun nw i => HasW.ext ⟨ts, ws, _, hb, ⟨h0, hx⟩, hs0, hw⟩ (q nw i)) (ei_name rfl) (ei_name rfl) rfl rfl rfl) (ei_width (fun nw i => HasW.ext ⟨ts, ws, _, hb, ⟨g0, gx⟩, gs0, gw⟩ (q nw i)) (ei_name rfl) (ei_name rfl) rfl rfl rfl)) (dat_int fun I => ei_int))) rfl rfl) rfl rfl
theorem spec_extract {high low : Int} (hc : c + 2 ≤ 1000000) (h0 : 0 ≤ t) (hx : ts[t.toNat]? = some x) (hs0 : 0 ≤ x.2.1) (hw : ws[x.2.1.toNat]? = some wd) (hwd : 0 < wd) (hl0 : 0 ≤ low) (hl1 : low ≤ high) (hl2 : high < wd) (hwx : wd ≤ 4096) :
    Spec w 695 4 news [.ref b.M.B, .int high t1, .int low t2, .int t tk] (MadeS w b ts ws (c + 2) news (Str.ofString "extract") (.inr (high, low)) (high - low + 1)) :=
  spec_def (o := o695) (binds := [(Str.ofString "self", Value.ref b.M.B), (Str.ofString "high", .int high t1), (Str.ofString "low", .int low t2), (Str.ofString "t", .int t tk)]) (by kernel_rfl) rfl (by kernel_rfl) rfl (locs rfl) rfl rfl rfl (by decide) fun c _ =>
    sr_do (ei_wb hb h0 hx hs0 hw hwd (ei_name rfl) (ei_name rfl) ei_str rfl rfl rfl) (sr_ifF (ti_to (ti_not (ti_chain ei_int (ec_le (ei_name rfl) hl0 (ec_le (ei_name rfl) hl1 (ec_lt (ei_width (at_self ⟨ts, ws, _, hb, ⟨h0, hx⟩, hs0, hw⟩) (ei_name rfl) (ei_name rfl) rfl rfl rfl)))) rfl)) (by rw [decide_eq_true hl2]; rfl))
      (sr_ret (eg_makeB (is := [t]) hb hc (by omega) (by omega) (fun so => rfl) (fun I => (ei_name rfl)) (fun I => (ei_name rfl)) ei_str (eil_cons rfl (ei_name rfl) eil_nil) rfl rfl rfl rfl rfl (fun I q => ei_add (ei_sub (ei_name rfl) (ei_name rfl)) ei_int) (dat_pair rfl (fun I => (ei_name rfl)) fun I => (ei_name rfl))))) rfl rfl
theorem spec_zero_extend {many : Int} (hc : c + 2 ≤ 1000000) (h0 : 0 ≤ t) (hx : ts[t.toNat]? = some x) (hs0 : 0 ≤ x.2.1) (hw : ws[x.2.1.toNat]? = some wd) (hwd : 0 < wd) (hm : 1 ≤ many) (hwx : wd + many ≤ 4096) :
    Spec w 702 4 news [.ref b.M.B, .int many t1, .int t tk] (MadeS w b ts ws (c + 2) news (Str.ofString "zero_extend") (.inl many) (wd + many)) :=
  spec_def (o := o702) (binds := [(Str.ofString "self", Value.ref b.M.B), (Str.ofString "many", .int many t1), (Str.ofString "t", .int t tk)]) (by kernel_rfl) rfl (by kernel_rfl) rfl (locs rfl) rfl rfl rfl (by decide) fun c _ =>
    sr_do (ei_wb hb h0 hx hs0 hw hwd (ei_name rfl) (ei_name rfl) ei_str rfl rfl rfl) (sr_ifF (ti_to (ti_ltI (ei_name rfl) ei_int) (decide_eq_false (Int.not_lt.mpr (Int.le_trans (by decide) hm)))) (sr_ret (eg_if (ti_to (ti_eqI (ei_name rfl) ei_int) (beq_eq_false_iff_ne.mpr (Int.ne_of_gt hm))) (fun q => by cases q) fun _ =>
      eg_makeB (is := [t]) hb hc (by omega) hwx (fun so => rfl) (fun I => (ei_name rfl)) (fun I => (ei_name rfl)) ei_str (eil_cons rfl (ei_name rfl) eil_nil) rfl rfl rfl rfl rfl (fun I q => ei_add (ei_width (fun nw i => HasW.ext ⟨ts, ws, _, hb, ⟨h0, hx⟩, hs0, hw⟩ (q nw i)) (ei_name rfl) (ei_name rfl) rfl rfl rfl) (ei_name rfl)) (dat_int fun I => (ei_name rfl))))) rfl rfl
theorem spec_sign_extend {many : Int} (hc : c + 2 ≤ 1000000) (h0 : 0 ≤ t) (hx : ts[t.toNat]? = some x) (hs0 : 0 ≤ x.2.1) (hw : ws[x.2.1.toNat]? = some wd) (hwd : 0 < wd) (hm : 1 ≤ many) (hwx : wd + many ≤ 4096) :
    Spec w 709 4 news [.ref b.M.B, .int many t1, .int t tk] (MadeS w b ts ws (c + 2) news (Str.ofString "sign_extend") (.inl many) (wd + many)) :=
  spec_def (o := o709) (binds := [(Str.ofString "self", Value.ref b.M.B), (Str.ofString "many", .int many t1), (Str.ofString "t", .int t tk)]) (by kernel_rfl) rfl (by kernel_rfl) rfl (locs rfl) rfl rfl rfl (by decide) fun c _ =>
    sr_do (ei_wb hb h0 hx hs0 hw hwd (ei_name rfl) (ei_name rfl) ei_str rfl rfl rfl) (sr_ifF (ti_to (ti_ltI (ei_name rfl) ei_int) (decide_eq_false (Int.not_lt.mpr (Int.le_trans (by decide) hm)))) (sr_ret (eg_if (ti_to (ti_eqI (ei_name rfl) ei_int) (beq_eq_false_iff_ne.mpr (Int.ne_of_gt hm))) (fun q => by cases q) fun _ =>
      eg_makeB (is := [t]) hb hc (by omega) hwx (fun so => rfl) (fun I => (ei_name rfl)) (fun I => (ei_name rfl)) ei_str (eil_cons rfl (ei_name rfl) eil_nil) rfl rfl rfl rfl rfl (fun I q => ei_add (ei_width (fun nw i => HasW.ext ⟨ts, ws, _, hb, ⟨h0, hx⟩, hs0, hw⟩ (q nw i)) (ei_name rfl) (ei_name rfl) rfl rfl rfl) (ei_name rfl)) (dat_int fun I => (ei_name rfl))))) rfl rfl
theorem spec_eq (hc : c < 1000000) (h0 : 0 ≤ t) (hx : ts[t.toNat]? = some x) (g0 : 0 ≤ u) (gx : ts[u.toNat]? = some y) (hyx : y.2.1 = x.2.1) (hne : t ≠ u) :
    Spec w 480 4 news [.ref b.M.B, .int t tk, .int u tl] (Made w b ts ws (c + 1) news (Str.ofString "=", 0, .inl 0)) :=
  spec_def (o := o480) (binds := [(Str.ofString "self", Value.ref b.M.B), (Str.ofString "a", .int t tk), (Str.ofString "b", .int u tl)]) (by kernel_rfl) rfl (by kernel_rfl) rfl (locs rfl) rfl rfl rfl (by decide) fun c _ =>
    sr_do (ei_want hb g0 gx hyx (ei_name rfl) (ei_name rfl) (ei_sortOf (ei_name rfl) (ei_name rfl) (at_self ⟨ts, ws, _, hb, h0, hx⟩)) ei_str rfl rfl rfl) (sr_ifF (ti_to (ti_eqI (ei_name rfl) (ei_name rfl)) (beq_eq_false_iff_ne.mpr hne))
      (sr_ret (eg_makeA (is := [min t u, max t u]) hb hc rfl (ei_name rfl) ei_str (eil_cons rfl (ei_min (ei_blt (by kernel_rfl) (by decide) (by decide) (by kernel_rfl) (by kernel_rfl)) rfl rfl (ei_name rfl) (ei_name rfl)) (eil_cons rfl (ei_max (ei_blt (by kernel_rfl) (by decide) (by decide) (by kernel_rfl) (by kernel_rfl)) rfl rfl (ei_name rfl) (ei_name rfl)) eil_nil)) rfl rfl rfl rfl (fun I q => ei_bool (by kernel_rfl)) (dat_int fun I => ei_int)))) rfl rfl
theorem spec_eq_same (h0 : 0 ≤ t) (hx : ts[t.toNat]? = some x) :
    Spec w 480 4 news [.ref b.M.B, .int t tk, .int t tl] (fun r news' => news' = news ∧ ∃ tk, r = .int 1 tk) := by
  obtain ⟨es, n, hD, af⟩ := hb.dict
  obtain ⟨tt, f⟩ := af.tru
  exact spec_pure (V := isI 1) (o := o480) (binds := [(Str.ofString "self", Value.ref b.M.B), (Str.ofString "a", .int t tk), (Str.ofString "b", .int t tl)]) (by kernel_rfl) rfl (by kernel_rfl) rfl (locs rfl) rfl rfl rfl (by decide) fun c =>
    sr_do (ei_want hb h0 hx rfl (ei_name rfl) (ei_name rfl) (ei_sortOf (ei_name rfl) (ei_name rfl) (at_self ⟨ts, ws, _, hb, h0, hx⟩)) ei_str rfl rfl rfl) (sr_if (ti_to (ti_eqI (ei_name rfl) (ei_name rfl)) (beq_self_eq_true t)) (fun _ => si_ret (ei_imp (ei_field bf_tru (ei_name rfl) (at_self ⟨es, n, hb.inst, hD, f⟩) rfl) fun u hu => ⟨tt, hu⟩)) fun q => by cases q) rfl rfl
theorem spec_not_of {d : Sum Int (Int × Int)} (hc : c < 1000000) (h0 : 0 ≤ t) (hx : ts[t.toNat]? = some (Str.ofString "=", 0, d)) (h1 : t ≠ 1) (h2 : t ≠ 2) :
    Spec w 438 4 news [.ref b.M.B, .int t tk] (Made w b ts ws (c + 1) news (Str.ofString "not", 0, .inl 0)) := by
  obtain ⟨es, n, hD, af⟩ := hb.dict
  obtain ⟨tt, f⟩ := af.tru
  obtain ⟨tu, g⟩ := af.fal
  exact spec_def (o := o438) (binds := [(Str.ofString "self", Value.ref b.M.B), (Str.ofString "t", .int t tk)]) (by kernel_rfl) rfl (by kernel_rfl) rfl (locs rfl) rfl rfl rfl (by decide) fun c _ =>
    sr_do (ei_want hb h0 hx rfl (ei_name rfl) (ei_name rfl) (ei_bool (by kernel_rfl)) ei_str rfl rfl rfl) (sr_ifF (ti_to (ti_eqS (ei_opOf (ei_name rfl) (ei_name rfl) (at_self ⟨ts, ws, _, hb, h0, hx⟩)) ei_str) rfl)
      (sr_ifF (ti_to (ti_eqI (ei_name rfl) (ei_imp (ei_field bf_tru (ei_name rfl) (at_self ⟨es, n, hb.inst, hD, f⟩) rfl) fun u hu => ⟨tt, hu⟩)) (beq_eq_false_iff_ne.mpr h1)) (sr_ifF (ti_to (ti_eqI (ei_name rfl) (ei_imp (ei_field bf_fal (ei_name rfl) (at_self ⟨es, n, hb.inst, hD, g⟩) rfl) fun u hu => ⟨tu, hu⟩)) (beq_eq_false_iff_ne.mpr h2))
        (sr_ret (eg_makeA (is := [t]) hb hc rfl (ei_name rfl) ei_str (eil_cons rfl (ei_name rfl) eil_nil) rfl rfl rfl rfl (fun I q => ei_bool (by kernel_rfl)) (dat_int fun I => ei_int)))))) rfl rfl
theorem spec_not_true : Spec w 438 4 news [.ref b.M.B, .int 1 tk] (fun r news' => news' = news ∧ ∃ tk, r = .int 2 tk) := by
  obtain ⟨es, n, hD, af⟩ := hb.dict
  obtain ⟨tt, f⟩ := af.tru
  obtain ⟨tu, g⟩ := af.fal
  exact spec_pure (V := isI 2) (o := o438) (binds := [(Str.ofString "self", Value.ref b.M.B), (Str.ofString "t", .int 1 tk)]) (by kernel_rfl) rfl (by kernel_rfl) rfl (locs rfl) rfl rfl rfl (by decide) fun c =>
    sr_do (ei_want (t := 1) hb (by decide) hb.tt rfl (ei_name rfl) (ei_name rfl) (ei_bool (by kernel_rfl)) ei_str rfl rfl rfl) (sr_ifF (ti_to (ti_eqS (ei_opOf (ei_name rfl) (ei_name rfl) (at_self (P := HasT w b 1 _) ⟨ts, ws, _, hb, by decide, hb.tt⟩)) ei_str) (by decide))
      (sr_if (ti_to (ti_eqI (ei_name rfl) (ei_imp (ei_field bf_tru (ei_name rfl) (at_self ⟨es, n, hb.inst, hD, f⟩) rfl) fun u hu => ⟨tt, hu⟩)) (β' := true) rfl) (fun _ => si_ret (ei_imp (ei_field bf_fal (ei_name rfl) (at_self ⟨es, n, hb.inst, hD, g⟩) rfl) fun u hu => ⟨tu, hu⟩)) fun q => by cases q)) rfl rfl
end

section
variable {w : World}
theorem bf_fns : BF w "fun_names" := ⟨by kernel_rfl, by kernel_rfl⟩
theorem bf_fas : BF w "fun_args" := ⟨by kernel_rfl, by kernel_rfl⟩
theorem bf_frs : BF w "fun_results" := ⟨by kernel_rfl, by kernel_rfl⟩
variable {S : Scope} {z : Nat} {c : Fx w S z} {l : FL} {I : Led → Prop} {a : Addr} {e : PySem.Expr} {p1 p2 : Pos}
theorem ei_tup1 (hx : c.env.kindOf (Str.ofString "tuple") = some .globalImplicit) (hu : unstarred e = true) (he : Ei c c.env l I e (isR a) I) (hm : ∀ nw, I nw → (a, tupO #[] 0) ∈ nw) : Ei c c.env l I (.Call (.Name (Str.ofString "tuple") p1) [e] [] p2) (isR a) I := by
  with_unfolding_all
    exact fun m s news Q E fo F N i ret =>
      Call_ (ei_blt (v := .type "tuple") hx (by decide) (by decide) (by kernel_rfl) (by kernel_rfl) m s news _ E fo F N i fun u n0 h0 tk0 F0 N0 j0 => by
        obtain ⟨hu0, i0⟩ := j0
        subst hu0
        refine PyProof.Rows.callWith_type1 (args_cons (he m _ n0 _ E fo F0 N0 i0 fun v n1 h1 tk1 F1 N1 j1 => args_nil ?_) (star_of hu [])) (star_of hu []) rfl
        obtain rfl : v = .ref a := j1.1
        exact call_tuple_tup (News.isTup N1 (hm _ j1.2)) (ret _ n1 h1 _ F1 N1 j1))
end
theorem le_push {a : Array Value} {v : Value} {c : Nat} (h : a.size ≤ c) : (a.push v).size ≤ c + 1 := by rw [Array.size_push]; exact Nat.succ_le_succ h
inductive DeclR (w : World) (b : BA) (ts : List Term) (ws : List Int) (c : Nat) (news : Led) (r : Value) (news' : Led) : Prop
  | mk (k : Int) (tk : Tok) (hr : r = .int k tk) (hb : FB w b ts ws c news') (hk : Kept b news news') : DeclR w b ts ws c news r news'
theorem decl_end {w : World} {b : BA} {ts : List Term} {ws : List Int} {k : Nat} {news nw : Led} {q1 q2 q3 : Array Value} {e1 e2 e3 : Nat} {V1 V2 V3 : Value → Prop} {h₀ h : Heap} {L : Addr} (hb : FB w b ts ws k news) (hc : k < 1000000) (N : News h₀ L h news) (m1 : (b.fn, listOf q1 e1) ∈ news) (z1 : q1.size ≤ k) (m2 : (b.fa, listOf q2 e2) ∈ news) (z2 : q2.size ≤ k) (m3 : (b.fr, listOf q3 e3) ∈ news) (z3 : q3.size ≤ k)
    (i3 : UpI b.fr q3 e3 V3 (UpI b.fa q2 e2 V2 (UpI b.fn q1 e1 V1 (At news))) nw) : FB w b ts ws (k + 1) nw ∧ Kept b news nw := by
  have o := hb.ord
  have kp : ∀ p ∈ news, b.Out [4, 5, 6] p.1 → p ∈ nw := fun p hp q => up_kept (P := fun p => p ∈ news ∧ b.Out [4, 5, 6] p.1) (up_kept (up_kept (fun _ e p hp => by rw [show _ = news from e]; exact hp.1) fun p hp => hp.2 4 (.head _)) fun p hp => hp.2 5 (.tail _ (.head _))) (fun p hp => hp.2 6 (.tail _ (.tail _ (.head _)))) nw i3 p ⟨hp, q⟩
  have tp : ∀ p ∈ news, p.2.cls = .type "tuple" → b.Out [4, 5, 6] p.1 := fun p hp q => by
    have nl : p.2.cls ≠ .type "list" := by rw [q]; decide
    have x2 := newsNe N hp m1 nl
    have x3 := newsNe N hp m2 nl
    have x4 := newsNe N hp m3 nl
    intro k hk
    simp only [List.mem_cons, List.not_mem_nil, or_false] at hk
    rcases hk with rfl | rfl | rfl
    · exact x2
    · exact x3
    · exact x4
  obtain ⟨_, _, y1⟩ := up_memE (up_memE up_head (o.ne (i := 4) (j := 5) (by decide) (by decide) (by decide))) (o.ne (i := 4) (j := 6) (by decide) (by decide) (by decide)) nw i3
  obtain ⟨_, _, y2⟩ := up_memE up_head (o.ne (i := 5) (j := 6) (by decide) (by decide) (by decide)) nw i3
  obtain ⟨_, _, y3⟩ := up_head nw i3
  have kc := Nat.le_succ k
  exact ⟨hb.re kc hc (List.prefix_refl _) (List.prefix_refl _) (Nat.le_succ_of_le hb.wlen) (fun o' i q hm => kp _ hm (o.outR 0 1 rfl (Nat.zero_le _) q)) (hb.m_ kc hc (fun o' i q r hm => kp _ hm (o.outR 7 11 rfl q r)) fun p hp q => kp p hp (tp p hp q.1)) (hb.n_ fun o' hm => kp _ hm (o.out 2 rfl)) (hb.w_ fun o' hm => kp _ hm (o.out 3 rfl)) (hb.v_ kc fun o' hm => kp _ hm (o.out 12 rfl)) ⟨_, _, y1, le_push z1⟩ ⟨_, _, y2, le_push z2⟩ ⟨_, _, y3, le_push z3⟩,
    fun p hp q => kp p hp ((q.off o).elim (tp p hp) fun q => q.sub rfl)⟩
section
variable (w : World) {b : BA} {ts : List Term} {ws : List Int} {c : Nat} {news : Led} {nm : Str} {a : Addr} {sv : Int} {t1 t2 : Tok}
theorem spec_declare (hb : FB w b ts ws c news) (hc : c < 1000000) (ha : (a, tupO #[] 0) ∈ news) :
    Spec w 263 2 news [.ref b.M.B, .str nm t1, .ref a, .int sv t2] (DeclR w b ts ws (c + 1) news) := by
  obtain ⟨es, n, hD, af⟩ := hb.dict
  obtain ⟨q1, e1, m1, z1⟩ := hb.fns
  obtain ⟨q2, e2, m2, z2⟩ := hb.fas
  obtain ⟨q3, e3, m3, z3⟩ := hb.frs
  have o := hb.ord
  have zz : ∀ {k : Nat}, k ≤ c → k ≤ 2000000 := fun q => Nat.le_trans q (Nat.le_trans (Nat.le_of_lt hc) (by decide))
  refine spec_def (o := o263) (binds := [(Str.ofString "self", Value.ref b.M.B), (Str.ofString "name", .str nm t1), (Str.ofString "arg_sorts", .ref a), (Str.ofString "result", .int sv t2)]) (by kernel_rfl) rfl (by kernel_rfl) rfl (locs rfl) rfl rfl rfl (by decide) fun c' _ => sr_news fun h0 N => ?_
  have P1 : ∀ nw, UpI b.fn q1 e1 (isS nm) (At news) nw → ∀ p, (p ∈ news ∧ b.Out [4, 5] p.1) → p ∈ nw := up_kept (fun _ e p hp => by rw [show _ = news from e]; exact hp.1) fun p hp => hp.2 4 (.head _)
  have P2 := up_kept (L := b.fa) (arr := q2) (k := e2) (V := isR a) P1 fun p hp => hp.2 5 (.tail _ (.head _))
  refine sr_do (ei_append (ei_field bf_fns (ei_name rfl) (at_self ⟨es, n, hb.inst, hD, af.fns⟩) rfl) rfl (ei_name rfl) (at_self m1) (zz z1) (meth0 rfl rfl rfl rfl)) ?_ rfl rfl
  refine sr_do (ei_append (ei_field bf_fas (ei_name rfl) (fun nw i => ⟨es, n, P1 nw i _ ⟨hb.inst, o.out 1 rfl⟩, P1 nw i _ ⟨hD, o.out 0 rfl⟩, af.fas⟩) rfl) rfl (ei_tup1 (by kernel_rfl) rfl (ei_name rfl) (up_mem (at_self ha) (newsNe N ha m1 (show Value.type "tuple" ≠ .type "list" by decide)))) (up_mem (at_self m2) (o.ne (i := 5) (j := 4) (by decide) (by decide) (by decide))) (zz z2) (meth0 rfl rfl rfl rfl)) ?_ rfl rfl
  refine sr_do (ei_append (ei_field bf_frs (ei_name rfl) (fun nw i => ⟨es, n, P2 nw i _ ⟨hb.inst, o.out 1 rfl⟩, P2 nw i _ ⟨hD, o.out 0 rfl⟩, af.frs⟩) rfl) rfl (ei_name rfl) (up_mem (up_mem (at_self m3) (o.ne (i := 6) (j := 4) (by decide) (by decide) (by decide))) (o.ne (i := 6) (j := 5) (by decide) (by decide) (by decide))) (zz z3) (meth0 rfl rfl rfl rfl)) ?_ rfl rfl
  refine sr_mono (R := fun u nw => isI (((q1.size + 1 : Nat) : Int) - 1) u ∧ UpI b.fr q3 e3 (isI sv) (UpI b.fa q2 e2 (isR a) (UpI b.fn q1 e1 (isS nm) (At news))) nw) (sr_ret (ei_sub (ei_len (k := q1.size + 1) (ei_blt (by kernel_rfl) (by decide) (by decide) (by kernel_rfl) (by kernel_rfl)) rfl (ei_field (B := b.M.B) (D := b.M.D) bf_fns (ei_name rfl) (fun nw i => ?_) rfl) (fun nw i => (up_memE (up_memE up_head (o.ne (i := 4) (j := 5) (by decide) (by decide) (by decide))) (o.ne (i := 4) (j := 6) (by decide) (by decide) (by decide)) nw i).elim fun u q => ⟨_, _, q.2, Array.size_push ..⟩) (Nat.lt_of_le_of_lt (Nat.succ_le_succ (zz z1)) (by decide))) ei_int)) ?_
  · have P3 := up_kept (L := b.fr) (arr := q3) (k := e3) (V := isI sv) (P := fun p => (p ∈ news ∧ b.Out [4, 5] p.1) ∧ p.1 ≠ b.fr) (fun nw i p hp => P2 nw i p hp.1) fun p hp => hp.2
    exact ⟨es, n, P3 nw i _ ⟨⟨hb.inst, o.out 1 rfl⟩, o.ne (i := 1) (j := 6) (by decide) (by decide) (by decide)⟩, P3 nw i _ ⟨⟨hD, o.out 0 rfl⟩, o.ne (i := 0) (j := 6) (by decide) (by decide) (by decide)⟩, af.fns⟩
  · rintro r nw ⟨⟨tk, rfl⟩, i⟩
    have x := decl_end hb hc N m1 z1 m2 z2 m3 z3 i
    exact ⟨_, tk, rfl, x.1, x.2⟩
theorem spec_fresh (hb : FB w b ts ws c news) (hc : c + 2 ≤ 1000000) :
    Spec w 277 4 news [.ref b.M.B, .str nm t1, .int sv t2] (fun r news' => ∃ (k : Int), Made w b ts ws (c + 2) news (Str.ofString "app", sv, .inl k) r news') :=
  spec_def (o := o277) (binds := [(Str.ofString "self", Value.ref b.M.B), (Str.ofString "name", .str nm t1), (Str.ofString "s", .int sv t2)]) (by kernel_rfl) rfl (by kernel_rfl) rfl (locs rfl) rfl rfl rfl (by decide) fun c' _ =>
    sr_ret (eg_makeG (is := []) hb (ei_name rfl) ei_str eil_nil rfl rfl rfl rfl fun D => egl_cons rfl (ei_name (V := isI sv) rfl (by kernel_rfl) (by decide)) fun u => egl_and fun ⟨tk, e⟩ => egl_cons (J1 := fun v nw => ∃ n1, (IntTupIn w n1 [] D ∧ Ext news n1) ∧ DeclR w b ts ws (c + 1) n1 v nw) rfl
      (eg_meth (sz := 2) (JA := fun vs nw => ∃ a n0, Alls [isS nm, isR a, isI sv] vs ∧ (IntTupIn w n0 [] D ∧ Ext news n0) ∧ nw = (a, tupO #[] 0) :: n0) bm_declare (ei_name rfl) (fun nw i => (hb.mono i.2).field fun es af => af.declare_fun) rfl rfl
        (egl_cons rfl (ei_name (V := isS nm) rfl (by kernel_rfl) (by decide)) fun v => egl_and fun hv => egl_cons rfl (eg_tuple eil_nil fun vs nw j => by rw [alls_len j.1]; exact Nat.zero_le _) fun u => egl_ex fun a => egl_ex fun vs => egl_ex fun n0 => egl_and fun hu => egl_cons rfl (ei_name (V := isI sv) rfl (by kernel_rfl) (by decide)) fun v3 => egl_and fun h3 => egl_nil fun nw ⟨hn, hi, _⟩ => ⟨a, n0, ⟨hv, hu, h3, trivial⟩, hi.2, by rw [hn, alls_nil hi.1]⟩)
        (fun vs nw h N ⟨a, n0, hA, i, e⟩ => pt_elim (ps := [.S nm, .R a, .I sv]) (P := fun vs => Spec w 263 2 nw (.ref b.M.B :: vs) _) (fun t1 t2 => (spec_declare w (hb.mono fun p hp => by rw [e]; exact .tail _ (i.2 p hp)) (by omega) (by rw [e]; exact .head _)).mono fun r n q => ⟨nw, ⟨i.1.monoT fun p hp _ => by rw [e]; exact .tail _ hp, fun p hp => by rw [e]; exact .tail _ (i.2 p hp)⟩, q⟩) hA) (meth0 rfl rfl rfl rfl))
      fun v => egl_nil fun nw ⟨n1, i, k, tk', e', fb, kk⟩ => ⟨sv, tk, .inl k, v, ts, ws, c + 1, by rw [e], fb, by omega, rfl, i.1.monoT fun p hp q => kk p hp (.inl q.1), ⟨tk', e'⟩, fun r n ⟨t, tk, ts', hr, h0, fb2, hs, hx2, kk2⟩ => ⟨k, t, tk, ts', hr, h0, fb2, hs, hx2, fun p hp q' => kk2 p (kk p (i.2 p hp) q') q'⟩⟩)
end


theorem rowsLp1 : True := by
  k_with "m_enter" => (refine' code_def (by k_asm) (by k_asm) (by k_asm) (by k_asm) (by k_asm) (by exact rfl) (by exact rfl) (by first | assumption | exact rfl) (by k_is) (by k_is) (by ktr_room) (by first | exact BindsTo.of_eq rfl | exact binds_K (by k_in) rfl (by k_is) rfl rfl rfl) (by exact locs rfl) ?_ (by exact rfl) (by exact rfl) (by exact rfl) (by decide); k_whole; intro g' L' h' FG' F' N' B' X' T'; (try dsimp only); (try k_fold))
  trivial

theorem rowsTBk : True := by
  k_with "km" => (assumption)
  k_with "kg" => (with_reducible assumption)
  k_with "ka" => (assumption)
  trivial
theorem rowsTBm : True := by
  k_with "m_mem" => (first | with_reducible exact List.mem_cons_self | (with_reducible refine List.mem_cons_of_mem _ ?_; k_extra "m_mem"))
  trivial
theorem MBank.off {w : World} {M : MA} {ts : List Term} {c : Nat} {T T' : Led} (h : MBank w M ts c T) (hM : M.Ord) (hs : ∀ p ∈ T, (IsT p.2 ∨ @LE.le Nat _ M.ops p.1) → p ∈ T') : MBank w M ts c T' :=
  let ⟨_, _, _, _, _, _, _, _, _, _, mb⟩ := h
  have o3 := Nat.le_of_lt hM.h2
  have o4 := Nat.le_trans o3 (Nat.le_of_lt hM.h3)
  have o5 := Nat.le_trans o4 (Nat.le_of_lt hM.h4)
  ⟨_, _, _, _, _, _, _, _, _, _, mb.stay (Nat.le_refl _) mb.clen (hs _ mb.mops (.inr (Nat.le_refl _))) (hs _ mb.margs (.inr o3)) (hs _ mb.msorts (.inr o4)) (hs _ mb.mdatas (.inr o5)) (hs _ mb.mN (.inr (Nat.le_trans o5 (Nat.le_of_lt hM.h5)))) fun p hp q => hs p hp (.inl q)⟩
theorem putL_le (name : Str) (h : Int) (k v : Value) : ∀ es : List DictEntry, (putL name h k v es).length ≤ es.length + 1
  | [] => Nat.le_refl _
  | e :: r => by
    unfold putL
    split
    · simp
    · have := putL_le name h k v r; simp only [List.length_cons]; omega
theorem str_isStr (x y : Str) (t : Tok) : (Value.str x t).isStr y = decide (x = y) := by
  show (x == y) = decide (x = y)
  by_cases h : x = y
  · simp [h]
  · simp [h]
def AllStr (es : List DictEntry) : Prop := ∀ e ∈ es, ∃ x t, e.key = .str x t
theorem AllStr.put {x : Str} {h : Int} {tk : Tok} {v : Value} : ∀ {es : List DictEntry}, AllStr es → AllStr (putL x h (.str x tk) v es)
  | [], _ => fun e he => by rw [List.mem_singleton.mp he]; exact ⟨x, tk, rfl⟩
  | e :: r, q => fun e' he => by
    unfold putL at he
    split at he
    · rcases List.mem_cons.mp he with rfl | he
      · exact q e (.head _)
      · exact q e' (.tail _ he)
    · rcases List.mem_cons.mp he with rfl | he
      · exact q e' (.head _)
      · exact AllStr.put (fun e he => q e (.tail _ he)) e' he
theorem AllStr.noRef {es : List DictEntry} (q : AllStr es) : es.any (·.refKey) = false := by
  cases h : es.any (·.refKey) with
  | false => rfl
  | true =>
    obtain ⟨e, he, hr⟩ := List.any_eq_true.mp h
    obtain ⟨x, t, hk⟩ := q e he
    unfold DictEntry.refKey at hr
    rw [hk] at hr
    cases hr
theorem getL_str {y : Str} {es : List DictEntry} (q : AllStr es) : getL y es = some ((es.find? (·.key.isStr y)).map (·.val)) := by
  unfold getL
  cases h : es.find? (·.key.isStr y) with
  | some e => rfl
  | none => simp [q.noRef]
theorem find_put {x y : Str} {h : Int} {tk : Tok} {v : Value} : ∀ {es : List DictEntry}, AllStr es → ((putL x h (.str x tk) v es).find? (·.key.isStr y)).map (·.val) = if x = y then some v else (es.find? (·.key.isStr y)).map (·.val)
  | [], _ => by
    unfold putL
    by_cases hxy : x = y
    · simp [List.find?, str_isStr, hxy]
    · simp [List.find?, str_isStr, hxy]
  | e :: r, q => by
    obtain ⟨z, t, hk⟩ := q e (.head _)
    have ih := find_put (x := x) (y := y) (h := h) (tk := tk) (v := v) (es := r) fun e he => q e (.tail _ he)
    unfold putL
    rw [hk, str_isStr]
    by_cases hzx : z = x
    · subst hzx
      by_cases hzy : z = y
      · simp [List.find?, str_isStr, hzy]
      · simp [List.find?, str_isStr, hzy, hk]
    · simp only [hzx, decide_false, Bool.false_eq_true, if_false]
      by_cases hzy : z = y
      · have : ¬ x = y := fun q => hzx (hzy.trans q.symm)
        simp [List.find?, str_isStr, hzy, hk, this]
      · simp only [List.find?, hk, str_isStr, hzy, decide_false]
        exact ih
theorem getL_put {x y : Str} {h : Int} {tk : Tok} {v : Value} {es : List DictEntry} (q : AllStr es) : getL y (putL x h (.str x tk) v es) = if x = y then some (some v) else getL y es := by
  rw [getL_str q.put, find_put q, getL_str q]
  split <;> rfl
theorem un_type (A : Around) (args : Args) : (A.under (.builtin "type.__call__" args)).units = A.units + 1 := by rfl
theorem rowsTB1 : True := by
  k_with "m_units" => (have hcL9 := cLine_is; (simp only [units_in1, units_deeper, un_type, Around.mark_units]); (try dsimp only [ktrTop]); omega)
  trivial
structure II (D B : Nat) (news : Led) (F : List (Str × Value)) (gl : Led) (nw : Led) : Prop where
  inst : (B, instObj 740 D) ∈ nw
  dict : ∃ es n, (D, dictOf es n) ∈ nw ∧ AllStr es ∧ (∀ x, getL x es = some (F.lookup x)) ∧ es.length ≤ F.length
  objs : ∀ p ∈ gl, p ∈ nw ∧ B < p.1
  desc : gl.Pairwise fun p q => @LT.lt Nat _ q.1 p.1
  DB : D < B
  keep : ∀ p ∈ news, p ∈ nw ∧ @LT.lt Nat _ p.1 D
section
variable {w : World} {D B : Nat} {news gl nw : Led} {F : List (Str × Value)} {o : Obj} {a : Addr} {v : Value} {nm : Str}
theorem II.start {T : Led} (h1 : (B, instObj 740 D) ∈ T) (h2 : (D, dictOf [] 0) ∈ T) (hDB : D < B) (hk : ∀ p ∈ news, p ∈ T ∧ @LT.lt Nat _ p.1 D) : II D B news [] [] T where
  inst := h1
  dict := ⟨[], 0, h2, (fun e h => by cases h), fun x => rfl, Nat.le_refl _⟩
  objs := fun p h => by cases h
  desc := List.Pairwise.nil
  DB := hDB
  keep := hk
theorem II.add (h : II D B news F gl nw) (l : ∀ p ∈ nw, @LT.lt Nat _ p.1 a) : II D B news F ((a, o) :: gl) ((a, o) :: nw) where
  inst := .tail _ h.inst
  dict := let ⟨es, n, hm, r⟩ := h.dict; ⟨es, n, .tail _ hm, r⟩
  objs := fun p hp => by
    rcases List.mem_cons.mp hp with rfl | hp
    · exact ⟨.head _, l _ h.inst⟩
    · exact ⟨.tail _ (h.objs p hp).1, (h.objs p hp).2⟩
  desc := List.pairwise_cons.mpr ⟨fun p hp => l p (h.objs p hp).1, h.desc⟩
  DB := h.DB
  keep := fun p hp => ⟨.tail _ (h.keep p hp).1, (h.keep p hp).2⟩
theorem II.set {A : Around} {E : Value → Shared → Prop} {s : Shared} {h₀ : Heap} {L : Addr} {m : Str → Option Value} {Q : Unit → Shared → Prop} (h : II D B news F gl nw) (Ff : Fr h₀ L s.heap m) (X₀ : (kF w.params).In h₀) (N : News h₀ L s.heap nw) (ht : takerIn (kF w.params) 740 nm = some none) (hz : F.length ≤ 900)
    (ret : ∀ h' nw', Fr h₀ L h' m → News h₀ L h' nw' → (∀ p ∈ nw, (IsT p.2 ∨ @Ne Nat p.1 D) → p ∈ nw') → II D B news ((nm, v) :: F) gl nw' → Q () { s with heap := h', toks := s.toks + 2 }) : wpAny (model PP w) A (setAttr (.ref B) nm v) Q E s := by
  obtain ⟨es, n, hd, hs, hg, hl⟩ := h.dict
  have off : ∀ p ∈ nw, @Ne Nat p.1 D → p ∈ less D nw := fun p hp hn => mem_less.mpr ⟨hp, hn⟩
  refine set_dict (dx := D) (news := (D, dictOf es n) :: less D nw) Ff X₀ (fun p hp => by
    rcases List.mem_cons.mp hp with rfl | hp
    · exact N _ hd
    · exact N _ (mem_less.mp hp).1) (⟨(N _ h.inst).1, rfl, rfl, (N _ hd).1⟩ : InstAt s.heap B (instObj 740 D) 740 (some (dictOf es n))) rfl (by kernel_rfl) (by kernel_rfl) ht (by kernel_rfl) (by rw [hg]; rfl) rfl (Upd.head fun p hp => (mem_less.mp hp).2) (by have := putL_le nm (PyData.keyHash w.params nm) (.str nm (s.toks + 1)) v es; omega)
    fun h' F' N' => ret h' _ F' N' (fun p hp q => .tail _ (off p hp fun e => by
      rcases q with q | q
      · have h1 := (N p hp).1
        have e' : p.1 = D := e
        rw [e', (N _ hd).1] at h1
        obtain ⟨hc, _⟩ := q
        rw [← Option.some.inj h1] at hc
        exact absurd (show Value.type "dict" = Value.type "tuple" from hc) (by simp)
      · exact q e)) ?_
  exact {
    inst := .tail _ (off _ h.inst (Nat.ne_of_gt h.DB))
    dict := ⟨_, _, .head _, hs.put, fun x => by
      rw [getL_put hs, List.lookup_cons]
      by_cases q : nm = x
      · subst q; rw [if_pos rfl, beq_self_eq_true]
      · rw [if_neg q, hg, beq_eq_false_iff_ne.mpr (Ne.symm q)], Nat.le_trans (putL_le ..) (Nat.succ_le_succ hl)⟩
    objs := fun p hp => ⟨.tail _ (off _ (h.objs p hp).1 (Nat.ne_of_gt (Nat.lt_trans h.DB (h.objs p hp).2))), (h.objs p hp).2⟩
    desc := h.desc
    DB := h.DB
    keep := fun p hp => ⟨.tail _ (off _ (h.keep p hp).1 (Nat.ne_of_lt (h.keep p hp).2)), (h.keep p hp).2⟩ }
variable {S : Scope} {z : Nat} {c : Fx w S z} {l : FL} {I : Led → Prop} {R : Flow → (Str → Option Value) → Led → Prop}
theorem sf_fldV {α : Type} {self e : PySem.Expr} {p1 p2 : Pos} {ss : List Stmt} {val : α → Value} {G : α → Prop} {gs : α → Led} (hself : ∀ I : Led → Prop, Ei c c.env l I self (isR B) I) (hsw : swapsWith e (some (.Attribute self nm p1)) p2.line c.env = pure false) (h : Eg c c.env l I e (fun u nw => ∃ a, (u = val a ∧ G a) ∧ II D B news F (gs a) nw)) (ht : takerIn (kF w.params) 740 nm = some none) (hz : Nat.ble F.length 900 = true)
    (hs : ∀ a, G a → Sx c (II D B news ((nm, val a) :: F) (gs a)) l ss R) : Sx c I l (.Assign [.Attribute self nm p1] e p2 :: ss) R := by
  with_unfolding_all
    exact fun m s nw Q fo Ff N i ret =>
      wpAny_execs_cons (plainObj_wpAny_Assign_Attribute (h m s nw _ _ fo Ff N i fun u nw2 h2 tk2 F2 N2 j => hself (At nw2) m _ nw2 _ _ fo F2 N2 rfl fun ov n3 h3 tk3 F3 N3 hov => by
        obtain rfl : n3 = nw2 := hov.2
        obtain rfl : ov = .ref B := hov.1
        obtain ⟨a, ⟨hu, hg⟩, hi⟩ := j
        subst hu
        exact hi.set F3 c.X N3 ht (Nat.le_of_ble_eq_true hz) fun h4 nw4 F4 N4 hk hi4 => hs a hg m _ nw4 Q fo F4 N4 hi4 ret) hsw)
theorem sf_fld {α : Type} {self e : PySem.Expr} {p1 p2 : Pos} {ss : List Stmt} {G : α → Value → Led → Prop} {gs : α → Led} (hself : ∀ I : Led → Prop, Ei c c.env l I self (isR B) I) (hsw : swapsWith e (some (.Attribute self nm p1)) p2.line c.env = pure false) (h : Eg c c.env l I e (fun u nw => ∃ a, G a u nw ∧ II D B news F (gs a) nw)) (ht : takerIn (kF w.params) 740 nm = some none) (hz : Nat.ble F.length 900 = true)
    (hG : ∀ a u nw nw', (∀ p ∈ nw, (IsT p.2 ∨ @Ne Nat p.1 D) → p ∈ nw') → G a u nw → G a u nw') (hs : ∀ a u, Sx c (fun nw => G a u nw ∧ II D B news ((nm, u) :: F) (gs a) nw) l ss R) : Sx c I l (.Assign [.Attribute self nm p1] e p2 :: ss) R := by
  with_unfolding_all
    exact fun m s nw Q fo Ff N i ret =>
      wpAny_execs_cons (plainObj_wpAny_Assign_Attribute (h m s nw _ _ fo Ff N i fun u nw2 h2 tk2 F2 N2 j => hself (At nw2) m _ nw2 _ _ fo F2 N2 rfl fun ov n3 h3 tk3 F3 N3 hov => by
        obtain rfl : n3 = nw2 := hov.2
        obtain rfl : ov = .ref B := hov.1
        obtain ⟨a, hu, hi⟩ := j
        exact hi.set F3 c.X N3 ht (Nat.le_of_ble_eq_true hz) fun h4 nw4 F4 N4 hk hi4 => hs a u m _ nw4 Q fo F4 N4 ⟨hG a u _ nw4 hk hu, hi4⟩ ret) hsw)
theorem ii_list {env : Env} {es : List PySem.Expr} {Vs : List (Value → Prop)} {p : Pos} (h : ∀ I : Led → Prop, EiL c env l I es Vs I) (hz : Nat.ble Vs.length 900 = true) : Eg c env l (II D B news F gl) (.List es p) (fun u nw => ∃ a : Addr × List Value, (u = .ref a.1 ∧ Alls Vs a.2) ∧ II D B news F ((a.1, listOf a.2.toArray 0) :: gl) nw) := by
  with_unfolding_all
    exact fun m s nw Q E fo Ff N i ret =>
      List_ (h (II D B news F gl) _ m s nw _ E fo Ff N i fun vs nw h' tk' F' N' hv => by
        refine newList_N F' N' (fun h2 F2 N2 => ret _ _ h2 _ F2 N2 ⟨(_, vs), ⟨rfl, hv.1⟩, hv.2.add fun p hp => Heap.lt_size (N' p hp).1⟩) ?_
        have := Nat.le_of_ble_eq_true hz
        have := alls_len hv.1
        have q : sizeLine = 16777216 := rfl
        omega)
end
section
variable {w : World} {M : MA} {news gl T T' : Led} {F : List (Str × Value)} {ts : List Term} {c : Nat}
theorem II.kept (h : II M.D M.B news F gl T) (hM : M.Ord) (hg : ∀ p ∈ gl, @LT.lt Nat _ p.1 M.ops) (hk : ∀ p ∈ T, p.1 ∉ M.muts → p ∈ T') : II M.D M.B news F gl T' := by
  have nm : ∀ {x : Nat}, x < M.ops → x ∉ M.muts := by
    intro x hx hm
    obtain ⟨h0, h1, h2, h3, h4, h5⟩ := hM
    simp only [MA.muts, List.mem_cons, List.not_mem_nil, or_false] at hm
    omega
  have hDB := h.DB
  have hB := hM.h1
  exact {
    inst := hk _ h.inst (nm hB)
    dict := let ⟨es, n, hm, r⟩ := h.dict; ⟨es, n, hk _ hm (nm (Nat.lt_trans hDB hB)), r⟩
    objs := fun p hp => ⟨hk p (h.objs p hp).1 (nm (hg p hp)), (h.objs p hp).2⟩
    desc := h.desc
    DB := h.DB
    keep := fun p hp => ⟨hk p (h.keep p hp).1 (nm (Nat.lt_trans (h.keep p hp).2 (Nat.lt_trans hDB hB))), (h.keep p hp).2⟩ }
theorem II.fewer {gl' : Led} {D B : Nat} (h : II D B news F (gl' ++ gl) T) : II D B news F gl T :=
  { h with objs := fun p hp => h.objs p (List.mem_append_right _ hp), desc := (List.pairwise_append.mp h.desc).2.1 }
theorem II.flds {D B : Nat} {ops args sorts datas N : Nat} (h : II D B news F gl T) (h1 : F.lookup (Str.ofString "term_ops") = some (Value.ref ops)) (h2 : F.lookup (Str.ofString "term_args") = some (Value.ref args)) (h3 : F.lookup (Str.ofString "term_sorts") = some (Value.ref sorts)) (h4 : F.lookup (Str.ofString "term_datas") = some (Value.ref datas)) (h5 : F.lookup (Str.ofString "numbers") = some (Value.ref N)) :
    ∃ es n, (D, dictOf es n) ∈ T ∧ Flds ⟨B, D, ops, args, sorts, datas, N⟩ es :=
  let ⟨es, n, hm, _, hg, _⟩ := h.dict
  ⟨es, n, hm, (hg _).trans (congrArg some h1), (hg _).trans (congrArg some h2), (hg _).trans (congrArg some h3), (hg _).trans (congrArg some h4), (hg _).trans (congrArg some h5)⟩
theorem spec_makeI (w : World) {op : Str} {a : Addr} {t1 t2 t3 : Tok} (hM : M.Ord) (h : II M.D M.B news F gl T) (hg : ∀ p ∈ gl, @LT.lt Nat _ p.1 M.ops) (hf : ∃ es n, (M.D, dictOf es n) ∈ T ∧ Flds M es) (hmb : MBank w M ts c T) (hc : c < 100)
   (hop : ∀ x ∈ ts, x.1 ≠ op) (hok : keyOk (op, [], 0, .inl 0)) (hl : (a, tupO #[] 0) ∈ T) :
   Spec w 354 3 T [.ref M.B, .str op t1, .ref a, .int 0 t2, .int 0 t3] (fun r T' => isI (ts.length : Nat) r ∧ MBank w M (ts ++ [(op, 0, .inl 0)]) (c + 1) T' ∧ II M.D M.B news F gl T') := by
  obtain ⟨es, n, hD, hf⟩ := hf
  refine (spec_makeS w hM h.inst hD hf hmb (by omega) hok ⟨#[], 0, hl, .nil⟩ ⟨t3, rfl⟩).mono ?_
  rintro r T' ⟨t, tk, ts', hr, ht0, hm, hp, ht, hk, hor⟩
  rcases hor with rfl | rfl
  · exact absurd rfl (hop _ (List.mem_of_getElem? ht))
  · have e : t = ts.length := by
      rcases get_app ht with ⟨_, q⟩ | ⟨q, _⟩
      · exact absurd rfl (hop _ (List.mem_of_getElem? q))
      · exact q
    subst e
    exact ⟨⟨tk, hr⟩, hm, h.kept hM hg fun p hp hn => hk p hp (.inl hn)⟩
end
section
variable {w : World} {news gl T T' : Led} {F : List (Str × Value)} {D B : Nat} {S : Scope} {z : Nat} {c : Fx w S z} {l : FL} {env : Env}
theorem eg_mk {M : MA} {ts : List Term} {k : Nat} {op : Str} {k1 k2 : Nat} {k3 : Tok} {p1 p2 p3 p4 p5 p6 p7 : Pos} (hx : c.env.kindOf (Str.ofString "BOOL") = some .globalImplicit) (hself : ∀ I : Led → Prop, Ei c c.env l I (.Name (Str.ofString "self") p1) (isR M.B) I) (hz : Nat.ble 3 z = true) (he : Meth0 (.Name (Str.ofString "self") p1) (Str.ofString "make") p2 p3 [.Constant (.str op) k1 p4, .Tuple [] k2 p5, .Name (Str.ofString "BOOL") p6, .Constant (.int 0) k3 p7] c.env)
    (hM : M.Ord) (hg : ∀ p ∈ gl, @LT.lt Nat _ p.1 M.ops) (hmk : F.lookup (Str.ofString "make") = none) (hf : ∀ T, II M.D M.B news F gl T → ∃ es n, (M.D, dictOf es n) ∈ T ∧ Flds M es) (hc : k < 100) (hop : ∀ x ∈ ts, x.1 ≠ op) (hok : keyOk (op, [], 0, .inl 0)) :
    Eg c c.env l (fun nw => MBank w M ts k nw ∧ II M.D M.B news F gl nw) (.Call (.Attribute (.Name (Str.ofString "self") p1) (Str.ofString "make") p2) [.Constant (.str op) k1 p4, .Tuple [] k2 p5, .Name (Str.ofString "BOOL") p6, .Constant (.int 0) k3 p7] [] p3)
      (fun u nw => isI (ts.length : Nat) u ∧ MBank w M (ts ++ [(op, 0, .inl 0)]) (k + 1) nw ∧ II M.D M.B news F gl nw) := by
  with_unfolding_all
    exact fun m s nw Q E fo Ff N i ret => by
      obtain ⟨pl, he⟩ := he
      refine MethodCall_ (hself (At nw) m s nw _ E fo Ff N rfl fun u n0 h0 tk0 F0 N0 hu => ?_) he
      obtain rfl : n0 = nw := hu.2
      obtain rfl : u = .ref M.B := hu.1
      obtain ⟨hm, hi⟩ := i
      obtain ⟨es, n, hd, hs, hgl, hl⟩ := hi.dict
      refine method_inst (f := 354) F0 c.X (InstAt.of_news N0 hi.inst hd) (by kernel_rfl) (by kernel_rfl) (by kernel_rfl) ((hgl _).trans (congrArg some hmk)) ?_
      refine callWith_K c.X (f := .ref 354) (by kernel_rfl) (args_cons (Constant_str (args_cons (Tuple_ (args_nil (kup_newTuple F0 N0 (fun D2 h2 F2 N2 l2 => args_cons (ei_bool (I := At ((D2, tupO #[] 0) :: n0)) hx m _ _ _ E fo F2 N2 rfl fun u3 n3 h3 tk3 F3 N3 hu3 => args_cons (wpAny_Constant_int (args_nil ?_)))) (by show 0 ≤ sizeLine; decide))))))) rfl rfl
      obtain rfl : n3 = (D2, tupO #[] 0) :: n0 := hu3.2
      obtain ⟨t3, rfl⟩ := hu3.1
      have hi2 : II M.D M.B news F gl ((D2, tupO #[] 0) :: n0) := hi.kept hM hg fun p hp _ => .tail _ hp
      exact ⟨c.X.keeps F3.keep, use_spec (spec_makeI w hM hi2 hg (hf _ hi2) (hm.off hM fun p hp _ => .tail _ hp) hc hop hok (.head _)) c.B F3 c.X N3 c.T c.hk (Nat.lt_of_le_of_lt (Nat.add_le_add_left (Nat.le_of_ble_eq_true hz) _) c.room) (Nat.lt_of_le_of_lt (Nat.add_le_add_left (Nat.mul_le_mul_left 8 (Nat.le_of_ble_eq_true hz)) _) c.units) fun r news'' h'' tk'' F'' N'' R => ret r news'' h'' tk'' F'' N'' R⟩
end
section
variable {w : World} {news gl : Led} {F : List (Str × Value)} {D B : Nat} {S : Scope} {z : Nat} {c : Fx w S z} {l : FL} {env : Env}
theorem ii_int {i : Int} {k : Tok} {p : Pos} : Eg c env l (II D B news F gl) (.Constant (.int i) k p) (fun u nw => ∃ a : Tok, (u = .int i a ∧ True) ∧ II D B news F gl nw) := eg_mono ei_int fun u nw ⟨⟨t, h⟩, j⟩ => ⟨t, ⟨h, trivial⟩, j⟩
theorem ii_nil {p : Pos} : Eg c env l (II D B news F gl) (.List [] p) (fun u nw => ∃ a : Addr, (u = .ref a ∧ True) ∧ II D B news F ((a, listOf #[] 0) :: gl) nw) := by
  with_unfolding_all
    exact fun m s nw Q E fo Ff N i ret =>
      List_ (args_nil (newList_N Ff N (fun h3 F3 N3 => ret _ _ h3 _ F3 N3 ⟨_, ⟨rfl, trivial⟩, i.add fun p hp => Heap.lt_size (N p hp).1⟩) (by show 0 ≤ sizeLine; decide)))
theorem ii_tup {k : Nat} {p1 p2 : Pos} : Eg c env l (II D B news F gl) (.List [.Tuple [] k p1] p2) (fun u nw => ∃ a : Addr × Addr, (u = .ref a.1 ∧ True) ∧ II D B news F ((a.1, listOf #[.ref a.2] 0) :: (a.2, tupO #[] 0) :: gl) nw) := by
  with_unfolding_all
    exact fun m s nw Q E fo Ff N i ret =>
      List_ (args_cons (Tuple_ (args_nil (kup_newTuple Ff N (fun D2 h2 F2 N2 l2 => args_nil (newList_N F2 N2 (fun h3 F3 N3 => ret _ _ h3 _ F3 N3 ⟨(_, D2), ⟨rfl, trivial⟩, (i.add l2).add fun p hp => Heap.lt_size (N2 p hp).1⟩) (by show 1 ≤ sizeLine; decide))) (by show 0 ≤ sizeLine; decide)))))
theorem ii_dict {p : Pos} : Eg c env l (II D B news F gl) (.Dict [] [] p) (fun u nw => ∃ a : Addr × Obj, (u = .ref a.1 ∧ a.2.IsDictOf (strKind PP w) [] ∧ (a.1 == sysModules) = false) ∧ II D B news F (a :: gl) nw) := by
  with_unfolding_all
    exact fun m s nw Q E fo Ff N i ret =>
      newDict_K Ff N (Top.nolimit c.T) fun d h' o F' N' l1 lo hs _ _ _ => ret _ _ h' _ F' N' ⟨(d, o), ⟨rfl, hs, lo⟩, i.add l1⟩
end
abbrev FF (M : MA) (ln lw fn fa fr : Nat) (t : Tok) : List (Str × Value) :=
  [(Str.ofString "numbers", .ref M.N), (Str.ofString "term_datas", .ref M.datas), (Str.ofString "term_sorts", .ref M.sorts), (Str.ofString "term_args", .ref M.args), (Str.ofString "term_ops", .ref M.ops), (Str.ofString "fresh_count", .int 0 t), (Str.ofString "fun_results", .ref fr), (Str.ofString "fun_args", .ref fa), (Str.ofString "fun_names", .ref fn), (Str.ofString "sort_widths", .ref lw), (Str.ofString "sort_names", .ref ln)]
abbrev GL (ln lw fn fa fr : Nat) (n0 w0 : List Value) : Led := [(fr, listOf #[] 0), (fa, listOf #[] 0), (fn, listOf #[] 0), (lw, listOf w0.toArray 0), (ln, listOf n0.toArray 0)]
theorem mb_of {w : World} {nw : Led} {B D ops args sorts datas N a0 : Nat} {oN : Obj} {u1 u3 u4 : Tok} (h1 : (ops, listOf #[.str (Str.ofString "") u1] 0) ∈ nw) (h2 : (args, listOf #[.ref a0] 0) ∈ nw) (h3 : (sorts, listOf #[.int 0 u3] 0) ∈ nw) (h4 : (datas, listOf #[.int 0 u4] 0) ∈ nw) (h5 : (N, oN) ∈ nw)
   (hN : oN.IsDictOf (strKind PP w) []) (hs : (N == sysModules) = false) : MBank w ⟨B, D, ops, args, sorts, datas, N⟩ [(Str.ofString "", 0, .inl 0)] 5 nw := by
  refine ⟨#[.str (Str.ofString "") u1], #[.ref a0], #[.int 0 u3], #[.int 0 u4], 0, 0, 0, 0, oN, [], ?_⟩
  have one : ∀ {i : Nat} {x : Term}, [((Str.ofString "", 0, .inl 0) : Term)][i]? = some x → i = 0 ∧ x = (Str.ofString "", 0, .inl 0) := fun {i x} h => by
    cases i with
    | zero => exact ⟨rfl, (Option.some.inj h).symm⟩
    | succ i => simp at h
  exact {
    mops := h1
    margs := h2
    msorts := h3
    mdatas := h4
    mN := h5
    num := by
      obtain ⟨es, ep, h1, h2, h3, h4, h5⟩ := hN
      refine ⟨h1, ⟨es, ep, h2, ?_⟩, List.nodup_nil⟩
      cases q : es.toList with
      | nil => rfl
      | cons a r => rw [q] at h4; cases h4
    keys := fun x hx => nomatch hx
    vals := fun x hx => nomatch hx
    xlen := Nat.zero_le _
    tpos := by decide
    tlen := by decide
    clen := by decide
    nsys := hs
    zops := rfl
    zargs := rfl
    zsorts := rfl
    zdatas := rfl
    tops := fun i x hx => by obtain ⟨rfl, rfl⟩ := one hx; exact ⟨u1, rfl⟩
    tsorts := fun i x hx => by obtain ⟨rfl, rfl⟩ := one hx; exact ⟨u3, rfl⟩
    tdatas := fun i x hx => by obtain ⟨rfl, rfl⟩ := one hx; exact ⟨_, rfl, u4, rfl⟩ }
def Inited (w : World) (news : Led) (B D : Nat) (nw : Led) : Prop :=
  ∃ ln lw fn fa fr ops args sorts datas N t n0 w0 tv fv, (isI 1 tv ∧ isI 2 fv ∧ n0.length = 3 ∧ Alls [isI 0, isI 0, isI 0] w0) ∧ (B < ln ∧ ln < lw ∧ lw < fn ∧ fn < fa ∧ fa < fr ∧ fr < ops ∧ ops < args ∧ args < sorts ∧ sorts < datas ∧ datas < N) ∧
    MBank w ⟨B, D, ops, args, sorts, datas, N⟩ [(Str.ofString "", 0, .inl 0), (Str.ofString "true", 0, .inl 0), (Str.ofString "false", 0, .inl 0)] 7 nw ∧
    II D B news ((Str.ofString "false_number", fv) :: (Str.ofString "true_number", tv) :: FF ⟨B, D, ops, args, sorts, datas, N⟩ ln lw fn fa fr t) (GL ln lw fn fa fr n0 w0) nw
theorem ord11 {a b c d e f g h i j k : Addr × Obj} (p : [a, b, c, d, e, f, g, h, i, j, k].Pairwise fun p q => @LT.lt Nat _ q.1 p.1) :
    @LT.lt Nat _ k.1 j.1 ∧ @LT.lt Nat _ j.1 i.1 ∧ @LT.lt Nat _ i.1 h.1 ∧ @LT.lt Nat _ h.1 g.1 ∧ @LT.lt Nat _ g.1 f.1 ∧ @LT.lt Nat _ f.1 d.1 ∧ @LT.lt Nat _ d.1 c.1 ∧ @LT.lt Nat _ c.1 b.1 ∧ @LT.lt Nat _ b.1 a.1 := by
  have q : ∀ {x y : Addr × Obj} {r : Led}, (x :: y :: r).Pairwise (fun p q => @LT.lt Nat _ q.1 p.1) → @LT.lt Nat _ y.1 x.1 ∧ (y :: r).Pairwise (fun p q => @LT.lt Nat _ q.1 p.1) := fun h => let h := List.pairwise_cons.mp h; ⟨h.1 _ (.head _), h.2⟩
  have p1 := q p
  have p2 := q p1.2
  have p3 := q p2.2
  have p4 := q p3.2
  have p5 := q p4.2
  have p6 := q p5.2
  have p7 := q p6.2
  have p8 := q p7.2
  have p9 := q p8.2
  have pA := q p9.2
  exact ⟨pA.1, p9.1, p8.1, p7.1, p6.1, Nat.lt_trans p5.1 p4.1, p3.1, p2.1, p1.1⟩
theorem ord5 {fr fa fn lw ln ops : Nat} {n0 w0 : List Value} (h : ln < lw ∧ lw < fn ∧ fn < fa ∧ fa < fr ∧ fr < ops) : ∀ p ∈ GL ln lw fn fa fr n0 w0, @LT.lt Nat _ p.1 ops := by
  obtain ⟨h1, h2, h3, h4, h5⟩ := h
  intro p hp
  rcases List.mem_cons.mp hp with rfl | hp
  · exact h5
  rcases List.mem_cons.mp hp with rfl | hp
  · exact Nat.lt_trans h4 h5
  rcases List.mem_cons.mp hp with rfl | hp
  · exact Nat.lt_trans h3 (Nat.lt_trans h4 h5)
  rcases List.mem_cons.mp hp with rfl | hp
  · exact Nat.lt_trans h2 (Nat.lt_trans h3 (Nat.lt_trans h4 h5))
  rcases List.mem_cons.mp hp with rfl | hp
  · exact Nat.lt_trans h1 (Nat.lt_trans h2 (Nat.lt_trans h3 (Nat.lt_trans h4 h5)))
  cases hp
theorem init_hG {w : World} {M : MA} (hM : M.Ord) (h : M.D < M.ops) (i : Int) (ts : List Term) (k : Nat) (_a : Unit) (u : Value) (nw nw' : Led) (hk : ∀ p ∈ nw, (IsT p.2 ∨ @Ne Nat p.1 M.D) → p ∈ nw') (q : isI i u ∧ MBank w M ts k nw) : isI i u ∧ MBank w M ts k nw' :=
  ⟨q.1, q.2.off hM fun p hp q => hk p hp (q.imp id fun q => Nat.ne_of_gt (Nat.lt_of_lt_of_le h q))⟩
theorem init_tail {w : World} {news : Led} {B D ln lw fn fa fr ops args a0 sorts datas N : Nat} {n0 w0 v7 v9 vA : List Value} {oN : Obj} {t6 : Tok} {S : Scope} {z : Nat} {c : Fx w S z} {k1 k2 k3 k4 : Nat} {k5 k6 : Tok} {p1 p2 p3 p4 p5 p6 p7 p8 p9 q1 q2 q3 q4 q5 q6 q7 q8 q9 : Pos} (hz : Nat.ble 3 z = true) (hx : c.env.kindOf (Str.ofString "BOOL") = some .globalImplicit) (hs : c.env.kindOf (Str.ofString "self") = some .local)
    (g1 : n0.length = 3) (g2 : Alls [isI 0, isI 0, isI 0] w0) (g7 : Alls [isS (Str.ofString "")] v7) (g9 : Alls [isI 0] v9) (gA : Alls [isI 0] vA) (gB : oN.IsDictOf (strKind PP w) []) (sB : (N == sysModules) = false)
    (he : Meth0 (.Name (Str.ofString "self") p1) (Str.ofString "make") p2 p3 [.Constant (.str (Str.ofString "true")) k1 p4, .Tuple [] k2 p5, .Name (Str.ofString "BOOL") p6, .Constant (.int 0) k5 p7] c.env) (he2 : Meth0 (.Name (Str.ofString "self") q1) (Str.ofString "make") q2 q3 [.Constant (.str (Str.ofString "false")) k3 q4, .Tuple [] k4 q5, .Name (Str.ofString "BOOL") q6, .Constant (.int 0) k6 q7] c.env)
    {r1 r2 : Pos} :
    Sf c (II D B news (FF ⟨B, D, ops, args, sorts, datas, N⟩ ln lw fn fa fr t6) ((N, oN) :: (datas, listOf vA.toArray 0) :: (sorts, listOf v9.toArray 0) :: (args, listOf #[.ref a0] 0) :: (a0, tupO #[] 0) :: (ops, listOf v7.toArray 0) :: GL ln lw fn fa fr n0 w0)) [(Str.ofString "self", isR B)]
      [.Assign [.Attribute (.Name (Str.ofString "self") p8) (Str.ofString "true_number") p9] (.Call (.Attribute (.Name (Str.ofString "self") p1) (Str.ofString "make") p2) [.Constant (.str (Str.ofString "true")) k1 p4, .Tuple [] k2 p5, .Name (Str.ofString "BOOL") p6, .Constant (.int 0) k5 p7] [] p3) r1,
       .Assign [.Attribute (.Name (Str.ofString "self") q8) (Str.ofString "false_number") q9] (.Call (.Attribute (.Name (Str.ofString "self") q1) (Str.ofString "make") q2) [.Constant (.str (Str.ofString "false")) k3 q4, .Tuple [] k4 q5, .Name (Str.ofString "BOOL") q6, .Constant (.int 0) k6 q7] [] q3) r2] [] (Inited w news B D) := by
  with_unfolding_all
    obtain ⟨x7, h7, q7, h7'⟩ := alls1 g7
    obtain ⟨x9, h9, q9, h9'⟩ := alls1 g9
    obtain ⟨xA, hA, qA, hA'⟩ := alls1 gA
    subst h7 h9 hA
    subst h7' h9' hA'
    intro m s nw Q fo Ff Nn i ret
    obtain ⟨d1, d2, d3, d4, d5, d6, d7, d8, d9⟩ := ord11 i.desc
    have ob := i.objs
    have hDB : D < B := i.DB
    have oB : B < ln := (ob (ln, listOf n0.toArray 0) (by k_extra "m_mem")).2
    have oB2 : B < ops := (ob (ops, _) (by k_extra "m_mem")).2
    have hM : MA.Ord ⟨B, D, ops, args, sorts, datas, N⟩ := ⟨hDB, oB2, d6, d7, d8, d9⟩
    have hg := ord5 (n0 := n0) (w0 := w0) ⟨d1, d2, d3, d4, d5⟩
    have self : ∀ {p : Pos} (I : Led → Prop), Ei c c.env [(Str.ofString "self", isR B)] I (.Name (Str.ofString "self") p) (isR B) I := fun I => ei_name rfl hs (by decide)
    refine sf_fld (α := Unit) (I := fun nw => MBank w ⟨B, D, ops, args, sorts, datas, N⟩ [(Str.ofString "", 0, .inl 0)] 5 nw ∧ II D B news (FF ⟨B, D, ops, args, sorts, datas, N⟩ ln lw fn fa fr t6) (GL ln lw fn fa fr n0 w0) nw) (gs := fun _ => GL ln lw fn fa fr n0 w0) (G := fun _ u nw => isI 1 u ∧ MBank w ⟨B, D, ops, args, sorts, datas, N⟩ [(Str.ofString "", 0, .inl 0), (Str.ofString "true", 0, .inl 0)] 6 nw) self rfl
      (eg_mono (eg_mk (M := ⟨B, D, ops, args, sorts, datas, N⟩) hx self hz he hM hg rfl (fun T h => h.flds rfl rfl rfl rfl rfl) (by decide) (by intro x hx; rw [List.mem_singleton.mp hx]; decide) rfl) fun u nw j => ⟨(), ⟨j.1, j.2.1⟩, j.2.2⟩) (by kernel_rfl) rfl (init_hG hM (Nat.lt_trans hDB oB2) _ _ _) (fun _ tv => ?_) m s nw Q fo Ff Nn ⟨mb_of (ob _ (by k_extra "m_mem")).1 (ob _ (by k_extra "m_mem")).1 (ob _ (by k_extra "m_mem")).1 (ob _ (by k_extra "m_mem")).1 (ob (N, oN) (by k_extra "m_mem")).1 gB sB, II.fewer (gl' := [_, _, _, _, _, _]) i⟩ ret
    refine sr_pre (I := fun nw => isI 1 tv ∧ MBank w ⟨B, D, ops, args, sorts, datas, N⟩ [(Str.ofString "", 0, .inl 0), (Str.ofString "true", 0, .inl 0)] 6 nw ∧ II D B news ((Str.ofString "true_number", tv) :: FF ⟨B, D, ops, args, sorts, datas, N⟩ ln lw fn fa fr t6) (GL ln lw fn fa fr n0 w0) nw) (sr_and fun htv => ?_) fun nw h => ⟨h.1.1, h.1.2, h.2⟩
    refine sf_fld (α := Unit) (gs := fun _ => GL ln lw fn fa fr n0 w0) (G := fun _ u nw => isI 2 u ∧ MBank w ⟨B, D, ops, args, sorts, datas, N⟩ [(Str.ofString "", 0, .inl 0), (Str.ofString "true", 0, .inl 0), (Str.ofString "false", 0, .inl 0)] 7 nw) self rfl
      (eg_mono (eg_mk (M := ⟨B, D, ops, args, sorts, datas, N⟩) hx self hz he2 hM hg rfl (fun T h => h.flds rfl rfl rfl rfl rfl) (by decide) (by intro x hx; simp only [List.mem_cons, List.not_mem_nil, or_false] at hx; rcases hx with rfl | rfl <;> decide) rfl) fun u nw j => ⟨(), ⟨j.1, j.2.1⟩, j.2.2⟩) (by kernel_rfl) rfl (init_hG hM (Nat.lt_trans hDB oB2) _ _ _) (fun _ fv => ?_)
    refine sf_nil (fun nw h => ⟨ln, lw, fn, fa, fr, ops, args, sorts, datas, N, t6, n0, w0, tv, fv, ⟨htv, h.1.1, g1, g2⟩, ⟨oB, d1, d2, d3, d4, d5, d6, d7, d8, d9⟩, h.1.2, h.2⟩) fun _ _ => fok_nil
theorem init_sf {w : World} {z : Nat} {news : Led} {B D : Nat} (c : Fx w (scopeOf (subS 29 0)) z) (hz : Nat.ble 3 z = true) : Sf c (II D B news [] []) [(Str.ofString "self", isR B)] (bodyOf (subS 29 0)) [] (Inited w news B D) := by
  have self : ∀ {p : Pos} (I : Led → Prop), Ei c c.env [(Str.ofString "self", isR B)] I (.Name (Str.ofString "self") p) (isR B) I := fun I => ei_name rfl (by kernel_rfl) (by decide)
  refine sf_fldV self rfl (ii_list (fun I => eil_cons rfl ei_str (eil_cons rfl ei_str (eil_cons rfl ei_str eil_nil))) rfl) (by kernel_rfl) rfl fun a1 g1 => ?_
  refine sf_fldV self rfl (ii_list (fun I => eil_cons rfl ei_int (eil_cons rfl ei_int (eil_cons rfl ei_int eil_nil))) rfl) (by kernel_rfl) rfl fun a2 g2 => ?_
  refine sf_fldV self rfl ii_nil (by kernel_rfl) rfl fun a3 _ => ?_
  refine sf_fldV self rfl ii_nil (by kernel_rfl) rfl fun a4 _ => ?_
  refine sf_fldV self rfl ii_nil (by kernel_rfl) rfl fun a5 _ => ?_
  refine sf_fldV self rfl ii_int (by kernel_rfl) rfl fun a6 _ => ?_
  refine sf_fldV self rfl (ii_list (fun I => eil_cons rfl ei_str eil_nil) rfl) (by kernel_rfl) rfl fun a7 g7 => ?_
  refine sf_fldV (α := Addr × Addr) (gs := fun a => (a.1, listOf #[.ref a.2] 0) :: (a.2, tupO #[] 0) :: _) self rfl ii_tup (by kernel_rfl) rfl fun a8 _ => ?_
  refine sf_fldV self rfl (ii_list (fun I => eil_cons rfl (ei_bool (by kernel_rfl)) eil_nil) rfl) (by kernel_rfl) rfl fun a9 g9 => ?_
  refine sf_fldV self rfl (ii_list (fun I => eil_cons rfl ei_int eil_nil) rfl) (by kernel_rfl) rfl fun aA gA => ?_
  refine sf_fldV self rfl ii_dict (by kernel_rfl) rfl fun aB gB => ?_
  exact init_tail hz (by kernel_rfl) (by kernel_rfl) (alls_len g1) g2 g7 g9 gA gB.1 gB.2 ⟨_, rfl⟩ ⟨_, rfl⟩
theorem three_at {w0 : List Value} (h : Alls [isI 0, isI 0, isI 0] w0) : w0.toArray.size = 3 ∧ ∀ (i : Nat) (x : Int), ([0, 0, 0] : List Int)[i]? = some x → ∃ t, w0.toArray[i]? = some (Value.int x t) := by
  obtain ⟨u1, u2, u3, e, ⟨t1, e1⟩, ⟨t2, e2⟩, ⟨t3, e3⟩⟩ := alls3 h
  subst e e1 e2 e3
  refine ⟨rfl, fun i x hx => ?_⟩
  rcases Nat.lt_or_ge i 3 with q | q
  · rcases (show i = 0 ∨ i = 1 ∨ i = 2 by omega) with rfl | rfl | rfl
    · obtain rfl := Option.some.inj hx; exact ⟨t1, rfl⟩
    · obtain rfl := Option.some.inj hx; exact ⟨t2, rfl⟩
    · obtain rfl := Option.some.inj hx; exact ⟨t3, rfl⟩
  · rw [List.getElem?_eq_none (by simpa using q)] at hx; cases hx
theorem Inited.fin {w : World} {news T2 : Led} {B D d : Nat} {o : Obj} {A : Around} {E : Value → Shared → Prop} {s : Shared} {h₀ : Heap} {L : Addr} {m : Str → Option Value} {Q : Unit → Shared → Prop} (hI : Inited w news B D T2) (Ff : Fr h₀ L s.heap m) (X₀ : (kF w.params).In h₀) (N : News h₀ L s.heap ((d, o) :: T2)) (l1 : ∀ p ∈ T2, @LT.lt Nat _ p.1 d) (lo : (d == sysModules) = false) (hi : o.IsDictOf (intKind PP w) [])
    (ret : ∀ h' T3 b, b.M.B = B → Fr h₀ L h' m → News h₀ L h' T3 → FB w b [(Str.ofString "", 0, .inl 0), (Str.ofString "true", 0, .inl 0), (Str.ofString "false", 0, .inl 0)] [0, 0, 0] 7 T3 → (∀ p ∈ news, p ∈ T3 ∧ @LT.lt Nat _ p.1 b.M.D) → Q () { s with heap := h', toks := s.toks + 2 }) : wpAny (model PP w) A (setAttr (.ref B) "bv_numbers" (.ref d)) Q E s := by
  obtain ⟨ln, lw, fn, fa, fr, ops, args, sorts, datas, Nn, t, n0, w0, tv, fv, ⟨⟨tt, rfl⟩, ⟨tf, rfl⟩, hn, hw⟩, ⟨h1, h2, h3, h4, h5, h6, h7, h8, h9, hA⟩, mb, ii⟩ := hI
  have hNd : Nn < d := by
    obtain ⟨_, _, _, _, _, _, _, _, _, _, q⟩ := id mb
    exact l1 _ q.mN
  have hDB : D < B := ii.DB
  refine (ii.add (o := o) l1).set Ff X₀ N (by kernel_rfl) (Nat.le_of_ble_eq_true rfl) fun h' T3 F3 N3 hk i3 => ret h' T3 ⟨⟨B, D, ops, args, sorts, datas, Nn⟩, ln, lw, fn, fa, fr, d⟩ rfl F3 N3 ?_ i3.keep
  have hM : MA.Ord ⟨B, D, ops, args, sorts, datas, Nn⟩ := ⟨hDB, by dsimp only; omega, h7, h8, h9, hA⟩
  obtain ⟨es, n, hd, _, hg, _⟩ := i3.dict
  have ob := i3.objs
  obtain ⟨w1, w2⟩ := three_at hw
  exact {
    ord := ⟨hDB, h1, h2, h3, h4, h5, h6, h7, h8, h9, hA, hNd⟩
    terms := mb.off hM fun p hp q => hk p (.tail _ hp) (q.imp id fun q => Nat.ne_of_gt (Nat.lt_of_lt_of_le (show D < ops by omega) q))
    inst := i3.inst
    dict := ⟨es, n, hd, ⟨(hg _).trans (by kernel_rfl), (hg _).trans (by kernel_rfl), (hg _).trans (by kernel_rfl), (hg _).trans (by kernel_rfl), (hg _).trans (by kernel_rfl), (hg _).trans (by kernel_rfl), (hg _).trans (by kernel_rfl), (hg _).trans (by kernel_rfl), (hg _).trans (by kernel_rfl), (hg _).trans (by kernel_rfl), ⟨tt, (hg _).trans (by kernel_rfl)⟩, ⟨tf, (hg _).trans (by kernel_rfl)⟩, (hg _).trans (by kernel_rfl), (hg _).trans (by kernel_rfl), (hg _).trans (by kernel_rfl), (hg _).trans (by kernel_rfl), (hg _).trans (by kernel_rfl), (hg _).trans (by kernel_rfl), (hg _).trans (by kernel_rfl), (hg _).trans (by kernel_rfl), (hg _).trans (by kernel_rfl), (hg _).trans (by kernel_rfl), (hg _).trans (by kernel_rfl), (hg _).trans (by kernel_rfl), (hg _).trans (by kernel_rfl), (hg _).trans (by kernel_rfl), (hg _).trans (by kernel_rfl), (hg _).trans (by kernel_rfl), (hg _).trans (by kernel_rfl), (hg _).trans (by kernel_rfl), (hg _).trans (by kernel_rfl)⟩⟩
    names := ⟨n0.toArray, 0, (ob _ (by k_extra "m_mem")).1, hn⟩
    widths := ⟨w0.toArray, 0, (ob _ (by k_extra "m_mem")).1, w1, w2⟩
    V := ⟨o, [], [], (ob _ (by k_extra "m_mem")).1, hi, .nil, Nat.zero_le _, fun i v h => by cases h⟩
    fns := ⟨_, _, (ob (fn, listOf #[] 0) (by k_extra "m_mem")).1, Nat.zero_le _⟩
    fas := ⟨_, _, (ob (fa, listOf #[] 0) (by k_extra "m_mem")).1, Nat.zero_le _⟩
    frs := ⟨_, _, (ob (fr, listOf #[] 0) (by k_extra "m_mem")).1, Nat.zero_le _⟩
    wlen := (by decide : 3 ≤ 7)
    clen := by decide
    vsys := lo
    tt := rfl
    tf := rfl
    w0 := rfl }
theorem spec_bank (w : World) {news : Led} : Spec w 740 30 news [] (fun r news' => ∃ b c, r = .ref b.M.B ∧ FB w b [(Str.ofString "", 0, .inl 0), (Str.ofString "true", 0, .inl 0), (Str.ofString "false", 0, .inl 0)] [0, 0, 0] c news' ∧ c ≤ 100 ∧ ∀ p ∈ news, p ∈ news' ∧ @LT.lt Nat _ p.1 b.M.D) := by
  with_unfolding_all
    unfold Spec
    k_fill
    intro mean mg mb' dp un gd cn cs a' ccd cl outer A₀ base h₀ L m s Q E B F X N T hk hdp hu hret
    k_dflt (refine' call_cls ?F ?X ?N ?m ?i ?f ?_; (case F => k_asm); (case X => k_asm); (case N => k_asm); (case m => k_is); (case i => k_is); (case f => k_is); k_whole)
    intro xB xD hh F1 N1 lD lB
    have nD : ∀ p ∈ news, @LT.lt Nat _ p.1 xD := lD
    (try k_lt lD)
    (try k_lt2 lB)
    (try dsimp only)
    clear F N
    k_dflt (refine' ks_code_super ?k1 ?k2 ?k3 ?k4 ?k5 ?kA ?kF ?kK ?k6 ?k7 ?k8 ?k9 ?kB ?_ ?c1 ?c2 ?c3 ?c4; (case kA => exact rfl); (case kF => exact rfl); (case kK => first | assumption | exact rfl); (case k1 => k_asm); (case k2 => k_asm); (case k3 => k_asm); (case k4 => k_asm); (case k5 => k_asm); (case k6 => k_is); (case k7 => k_is); (case k8 => ktr_room); (case k9 => exact BindsTo.of_eq rfl); (case kB => exact locs rfl); (case c1 => decide); (case c2 => exact rfl); (case c3 => exact rfl); (case c4 => exact rfl))
    intro g' L' h' FG' F' N' B' X' T' l1
    (try dsimp only)
    k_steps
    k_dflt (refine' call_meth ?z1 ?z2 ?_; (case z1 => k_asm); (case z2 => k_mem))
    k_dflt (k_extra "m_enter")
    rename Fr _ _ _ _ => kF9
    rename News _ _ _ _ => kN9
    rename Below _ _ _ _ => kB9
    rename Top _ _ _ _ _ _ => kT9
    rename (kF _).In _ => kX9
    refine wpAny_mono (init_sf (w := w) (z := 20) (news := news) (B := xB) (D := xD) ⟨mean, mg, mb', _, _, gd, _, _, _, _, [], _, _, _, _, kB9, kX9, kT9, by ktr_room, by k_extra "m_units", by kernel_rfl⟩ rfl _ _ _ _ (fok_cons rfl fok_nil) kF9 kN9
      (II.start (.tail _ (.tail _ (.head _))) (.tail _ (.tail _ (.tail _ (.head _)))) lB fun p hp => ⟨.tail _ (.tail _ (.tail _ (.tail _ hp))), nD p hp⟩) ?_) (fun _ _ x => x) (fun _ _ x => x.elim)
    intro f2 T2 h2 m2 tk2 F2 N2 hI
    obtain ⟨e2, _, hI⟩ := hI
    subst e2
    (try dsimp only)
    k_steps
    rename Fr _ _ _ _ => kF8
    rename News _ _ _ _ => kN8
    rename ∀ p ∈ T2, _ => l10
    rename (_ == sysModules) = false => lo10
    rename Obj.IsDictOf (intKind _ _) _ [] => hi9
    refine hI.fin kF8 (by k_asm) kN8 l10 lo10 hi9 ?_
    intro h8 T3 b hb F8 N8 fb kp
    subst hb
    clear hI kN8 kF8
    (try dsimp only)
    k_steps
    rename Fr _ _ _ _ => kF9
    rename News _ _ _ _ => kN9
    exact hret _ _ _ _ kF9 kN9 ⟨b, 7, rfl, fb, by decide, kp⟩

structure Jack (news : Led) (J : Addr) (place : Int) (C : Addr) (arr : Array Value) (ns : List Int) (e e' : Nat) (t : Tok) : Prop where
  jack : (J, listOf #[.ref C, .int place t] e) ∈ news
  cells : (C, listOf arr e') ∈ news
  cints : IntsAre arr.toList ns
  low : ∀ n ∈ ns, 0 ≤ n ∧ n < 1048573
  size : arr.size ≤ 30
  ne : @Ne Nat C J
  p0 : 0 ≤ place
inductive JackIs (C : Addr) (arr : Array Value) (news : Led) (J : Addr) (place : Int) : Prop
  | mk (ns : List Int) (e e' : Nat) (t : Tok) (h : Jack news J place C arr ns e e' t) : JackIs C arr news J place
def isIn (lo hi : Int) : Value → Prop := fun u => ∃ x t, u = .int x t ∧ lo ≤ x ∧ x < hi
def isZ : Value → Prop := fun u => ∃ x t, u = .int x t
structure Lifted (C : Addr) (arr : Array Value) (news : Led) (J : Addr) (place many : Int) (r : Value) (news' : Led) : Prop where
  h : isIn 0 many r
  jk : JackIs C arr news' J (place + 1)
  kp : ∀ p ∈ news, @Ne Nat p.1 J → p ∈ news'
section
variable {prog : Program} {w : World} {A : Around} {E : Value → Shared → Prop} {s : Shared} {h₀ : Heap} {L J : Addr} {m : Str → Option Value} {news : Led}
theorem jack_set {a b v : Value} {n : Nat} {t : Tok} {Q : Unit → Shared → Prop} (F : Fr h₀ L s.heap m) (N : News h₀ L s.heap news) (hm : (J, listOf #[a, b] n) ∈ news)
   (h : ∀ h', Fr h₀ L h' m → News h₀ L h' ((J, listOf #[a, v] n) :: less J news) → Q () { s with heap := h' }) : wpAny (model prog w) A (setItem (.ref J) (.int 1 t) v) Q E s :=
  ki_set (D := J) (its := #[a, b]) (n := n) (q := [a, v]) (news := (J, listOf #[a, b] n) :: less J news) (news' := (J, listOf #[a, v] n) :: less J news) F (fun p hp => by
    rcases List.mem_cons.mp hp with rfl | hp
    · exact N _ hm
    · exact N _ (mem_less.mp hp).1) (by decide) (by decide) rfl (Upd.head fun p hp => (mem_less.mp hp).2) h
theorem cell_at {arr : Array Value} {ns : List Int} (h : IntsAre arr.toList ns) {i : Nat} (hi : i < arr.size) : ∃ v t, arr[i]? = some (.int v t) ∧ v ∈ ns := by
  have h2 : ∀ {vs : List Value} {ns : List Int}, IntsAre vs ns → ∀ i, i < vs.length → ∃ v t, vs[i]? = some (.int v t) ∧ v ∈ ns := by
    intro vs ns q
    induction q with
    | nil => intro i hi; simp at hi
    | cons n t q ih =>
      intro i hi
      cases i with
      | zero => exact ⟨n, t, rfl, by simp⟩
      | succ i =>
        obtain ⟨v, t', h1, h2⟩ := ih i (by simpa using hi)
        exact ⟨v, t', by simpa using h1, by simp [h2]⟩
  obtain ⟨v, t, h1, h3⟩ := h2 h i (by simpa using hi)
  exact ⟨v, t, by simpa using h1, h3⟩
theorem JackIs.cons {C : Addr} {arr : Array Value} {news : Led} {J : Addr} {place : Int} {e : Addr × Obj} (h : JackIs C arr news J place) : JackIs C arr (e :: news) J place :=
  let ⟨ns, e1, e2, t, h⟩ := h
  ⟨ns, e1, e2, t, { h with jack := .tail _ h.jack, cells := .tail _ h.cells }⟩
end
section
variable {w : World} {S : Scope} {z : Nat} {c : Fx w S z} {env : Env} {l : FL} {I I1 I2 : Led → Prop} {a b : PySem.Expr} {p : Pos}
theorem ei_modN {j : Int} (ha : Ei c env l I a isZ I1) (hb : Ei c env l I1 b (isI j) I2) (h0 : 0 < j) : Ei c env l I (.BinOp a .Mod b p) (isIn 0 j) I2 := ei_bin ha hb fun u v s m news Q E hu hv F N ret => by
  obtain ⟨x, t1, rfl⟩ := hu
  obtain ⟨t2, rfl⟩ := hv
  exact mod_int (Int.ne_of_gt h0) (ret _ _ ⟨_, _, rfl, Int.fmod_nonneg_of_pos _ h0, Int.fmod_lt_of_pos _ h0⟩)
theorem isIn_z {lo hi : Int} (u : Value) (h : isIn lo hi u) : isZ u := h.imp fun _ h => h.imp fun _ h => h.1
theorem isI_z {i : Int} (u : Value) (h : isI i u) : isZ u := ⟨i, h⟩
theorem ei_addZ (ha : Ei c env l I a isZ I1) (hb : Ei c env l I1 b isZ I2) : Ei c env l I (.BinOp a .Add b p) isZ I2 := ei_bin ha hb fun u v s m news Q E hu hv F N ret => by
  obtain ⟨x, t1, rfl⟩ := hu
  obtain ⟨y, t2, rfl⟩ := hv
  exact add_int (ret _ _ ⟨_, _, rfl⟩)
theorem ei_mulZ {hi : Int} (hh : hi ≤ 1048576) (ha : Ei c env l I a (isIn 0 hi) I1) (hb : Ei c env l I1 b isZ I2) : Ei c env l I (.BinOp a .Mult b p) isZ I2 := ei_bin ha hb fun u v s m news Q E hu hv F N ret => by
  obtain ⟨x, t1, rfl, h0, h1⟩ := hu
  obtain ⟨y, t2, rfl⟩ := hv
  exact mul_int (ret _ _ ⟨_, _, rfl⟩) (IntMulOk.of_left (intBits_le_iff.mpr (Nat.lt_trans (show x.natAbs < 2 ^ 20 by omega) (by decide))))
end
section
variable {w : World} {C : Addr} {arr : Array Value} {news : Led} {J : Addr} {place many : Int} {tk : Tok}
theorem spec_lift (w : World) (hj : JackIs C arr news J place) (hp : place ≤ 100) (h1 : 1 ≤ many) (h2 : many ≤ 1048573) : Spec w 756 3 news [.ref J, .int many tk] (Lifted C arr news J place many) := by
  obtain ⟨ns, e, e', t, h⟩ := hj
  have p0 := h.p0
  have cells : ∀ nw, (∃ t', nw = upL J (listOf #[.ref C, .int (place + 1) t'] e) news) → (C, listOf arr e') ∈ nw := fun nw ⟨_, q⟩ => by rw [q]; exact mem_up h.cells h.ne
  have jk0 : ∀ nw, (∃ t', nw = upL J (listOf #[.ref C, .int (place + 1) t'] e) news) → ItemAt J 0 (isR C) nw := fun nw ⟨_, q⟩ => by subst q; exact ⟨_, _, _, .head _, rfl, rfl, by decide, by decide⟩
  refine spec_def (o := o756) (binds := [(Str.ofString "jack", Value.ref J), (Str.ofString "many", .int many tk)]) (by kernel_rfl) rfl (by kernel_rfl) rfl (locs rfl) rfl rfl rfl (by decide) fun c _ => ?_
  refine si_set (U := isI place) rfl (by kernel_rfl) (ei_item (ei_name rfl) ei_int (at_self ⟨_, _, _, h.jack, rfl, ⟨t, rfl⟩, by decide, by decide⟩) fun k => by with_unfolding_all rfl) ?_
  refine sr_item (V := isI (place + 1)) (U := isI 1) (W := isR J) (I1 := fun nw => ∃ t', nw = upL J (listOf #[.ref C, .int (place + 1) t'] e) news) (ei_add (ei_name rfl) ei_int) (ei_name rfl) ei_int (fun u v d s m nw Q E hu hv hd F N i ret => by
    obtain ⟨t1, rfl⟩ := hu
    obtain ⟨t2, rfl⟩ := hv
    obtain rfl : d = .ref J := hd
    obtain rfl : nw = news := i
    exact jack_set F N h.jack fun h' F' N' => ret h' _ _ F' N' ⟨t1, rfl⟩) ?_ rfl
  refine sr_mono (R := fun u nw => isIn 0 many u ∧ ∃ t', nw = upL J (listOf #[.ref C, .int (place + 1) t'] e) news) (sr_ret (ei_modN (ei_if (V := isZ) (ti_ltI (ei_name rfl) (ei_len (k := arr.size) (ei_blt (by kernel_rfl) (by decide) (by decide) (by kernel_rfl) (by kernel_rfl)) rfl (ei_item (ei_name rfl) ei_int jk0 fun k => by with_unfolding_all rfl) (fun nw i => ⟨_, _, cells nw i, rfl⟩) (Nat.lt_of_le_of_lt h.size (by decide)))) (fun q => ?_) fun _ => ?_) (ei_name rfl) (Int.lt_of_lt_of_le Int.zero_lt_one h1))) ?_
  · obtain ⟨v, tv, hv, _⟩ := cell_at h.cints (show place.toNat < arr.size by have := of_decide_eq_true q; omega)
    exact ei_item (ei_item (ei_name rfl) ei_int jk0 fun k => by with_unfolding_all rfl) (ei_name rfl) (fun nw i => ⟨_, _, _, cells nw i, hv, ⟨v, tv, rfl⟩, p0, by omega⟩) fun k => by with_unfolding_all rfl
  · have k1 : IntMulOk 5 place := IntMulOk.of_left (by decide)
    have k2 : IntMulOk (5 * place) place := IntMulOk.of_right (intBits_le_iff.mpr (Nat.lt_of_le_of_lt (show place.natAbs ≤ 100 by omega) (by decide)))
    have k3 : IntMulOk 9 place := IntMulOk.of_left (by decide)
    exact ei_imp (ep_div (ei_add (ei_add (ep_mulI (ep_mulI ei_int (ei_name rfl) k1) (ei_name rfl) k2) (ep_mulI ei_int (ei_name rfl) k3)) ei_int) ei_int (by decide) (by decide)) isI_z
  · rintro r nw ⟨hr, t', rfl⟩
    exact ⟨hr, ⟨ns, e, e', _, { h with jack := .head _, cells := mem_up h.cells h.ne, p0 := by omega }⟩, fun p hp hq => mem_up hp hq⟩
inductive Numbered (C : Addr) (arr : Array Value) (news : Led) (J : Addr) (place wd : Int) (r : Value) (news' : Led) : Prop
  | mk (q : Int) (h : isIn 0 (2 ^ wd.toNat) r) (jk : JackIs C arr news' J q) (hq : q ≤ place + 3) (kp : ∀ p ∈ news, @Ne Nat p.1 J → p ∈ news') : Numbered C arr news J place wd r news'
def JackLe (C : Addr) (arr : Array Value) (news : Led) (J : Addr) (q : Int) (nw : Led) : Prop := (∃ pl, pl ≤ q ∧ JackIs C arr nw J pl) ∧ ∀ p ∈ news, @Ne Nat p.1 J → p ∈ nw
theorem JackLe.cons {q : Int} {e : Addr × Obj} {nw : Led} (h : JackLe C arr news J q nw) : JackLe C arr news J q (e :: nw) := ⟨h.1.imp fun _ h => ⟨h.1, h.2.cons⟩, fun p hp hq => .tail _ (h.2 p hp hq)⟩
theorem JackLe.le {q q' : Int} {nw : Led} (h : JackLe C arr news J q nw) (hq : q ≤ q') : JackLe C arr news J q' nw := ⟨h.1.imp fun _ h => ⟨Int.le_trans h.1 hq, h.2⟩, h.2⟩
theorem kp_lift : keepIn (kF w.params) (.ref 756) = true := by kernel_rfl
theorem gl_lift : nsIn (kF w.params) mainGlobals "_law_lift" = some (some (.ref 756)) := by kernel_rfl
variable {S : Scope} {z : Nat} {c : Fx w S z} {l : FL} {I1 : Led → Prop} {e1 e2 : PySem.Expr} {p1 p2 p3 : Pos} {q : Int}
theorem ei_lift (hx : c.env.kindOf (Str.ofString "_law_lift") = some .globalImplicit) (hz : Nat.ble 3 z = true) (h1 : Ei c c.env l (JackLe C arr news J q) e1 (isR J) (JackLe C arr news J q)) (h2 : Ei c c.env l (JackLe C arr news J q) e2 (isI many) (JackLe C arr news J q)) (hu : [e1, e2].all unstarred = true) (hq : q ≤ 99) (m1 : 1 ≤ many) (m2 : many ≤ 1048573) :
    Ei c c.env l (JackLe C arr news J q) (.Call (.Name (Str.ofString "_law_lift") p1) [e1, e2] [] p2) (isIn 0 many) (JackLe C arr news J (q + 1)) :=
  have u1 := Bool.and_eq_true_iff.mp hu
  ei_call (f := 756) (sz := 3) (ei_glob hx (by decide) gl_lift) kp_lift hz hu (eil_cons u1.1 h1 (eil_cons (Bool.and_eq_true_iff.mp u1.2).1 h2 eil_nil)) fun vs nw hA ⟨⟨pl, hp, jk⟩, kp⟩ => pt_elim (ps := [.R J, .I many]) (P := fun vs => Spec w 756 3 nw vs _) (fun t => (spec_lift w jk (by omega) m1 m2).mono fun r n q => ⟨q.h, ⟨⟨pl + 1, by omega, q.jk⟩, fun p hp hn => q.kp p (kp p hp hn) hn⟩⟩) hA
theorem spec_number (w : World) {wd : Int} (hj : JackIs C arr news J place) (hp : place ≤ 90) (h1 : 1 ≤ wd) (h2 : wd ≤ 70) : Spec w 763 6 news [.ref J, .int wd tk] (Numbered C arr news J place wd) :=
  have pos := PySem.W.kbt_pos wd.toNat
  spec_def (o := o763) (binds := [(Str.ofString "jack", Value.ref J), (Str.ofString "width", .int wd tk)]) (by kernel_rfl) rfl (by kernel_rfl) rfl (locs rfl) rfl rfl rfl (by decide) fun c _ => sr_pre (I := JackLe C arr news J place) (sr_tupX (α := Int) (U1 := isI) (U2 := fun _ => isI (2 ^ wd.toNat)) (K := fun i nw => (0 ≤ i) ∧ JackLe C arr news J (place + 1) nw) (by kernel_rfl) (by kernel_rfl) rfl rfl
    (eil_cons rfl (ei_lift (by kernel_rfl) rfl (ei_name rfl) ei_int rfl (by omega) (by decide) (by decide)) (eil_cons rfl (ei_pow ei_int (ei_name rfl) (by omega) (by omega) (by decide)) eil_nil))
    (fun vs nw j => let ⟨v1, v2, e, ⟨x, t, q1, q2, _⟩, q3⟩ := alls2 j.1; ⟨x, v1, v2, e, ⟨t, q1⟩, q3, fun e => ⟨q2, j.2.cons⟩⟩) fun way => sr_and fun w0 => sr_mono (R := fun u nw => isIn 0 (2 ^ wd.toNat) u ∧ JackLe C arr news J (place + 3) nw)
      (sr_if (ti_ltI (ei_name rfl) ei_int) (fun q => sr_ret (ei_modN (eg_menu (V := isZ) (eil_cons rfl ei_int (eil_cons rfl ei_int (eil_cons rfl (ei_sub (ei_name rfl) ei_int) eil_nil))) rfl (fun D o => eg_mono (ei_name (V := isI way) rfl (by kernel_rfl) (by decide)) fun u nw ⟨hu, n0, j, e, _⟩ => ⟨way, hu, ⟨w0, of_decide_eq_true q, by rw [e]; exact .head _⟩, by rw [e]; exact (j.le (by omega)).cons⟩) (by
        intro W hW u hu
        simp only [List.mem_cons, List.not_mem_nil, or_false] at hW
        rcases hW with rfl | rfl | rfl <;> exact isI_z u hu) fun D i k => by with_unfolding_all rfl) (ei_name rfl) pos)) fun _ =>
        sr_ret (eg_mono (J := fun u nw => isIn 0 (2 ^ wd.toNat) u ∧ JackLe C arr news J (place + 1 + 1 + 1) nw) (ei_modN (ei_addZ (ei_mulZ (by decide) (ei_lift (by kernel_rfl) rfl (ei_name rfl) ei_int rfl (by omega) (by decide) (by decide)) (ei_if (ti_ltI (ei_name rfl) ei_int) (fun _ => ei_imp ei_int isI_z) fun _ => ei_imp (ei_pow ei_int ei_int (by decide) (by decide) (by decide)) isI_z)) (ei_imp (ei_lift (by kernel_rfl) rfl (ei_name rfl) ei_int rfl (by omega) (by decide) (by decide)) isIn_z)) (ei_name rfl) pos) fun u nw j => ⟨j.1, j.2.le (by omega)⟩))
      fun u nw q => let ⟨pl, hq, jk⟩ := q.2.1; ⟨pl, q.1, jk, hq, q.2.2⟩) fun nw e => by
      obtain rfl : nw = news := e
      exact ⟨⟨place, Int.le_refl _, hj⟩, fun p hp _ => hp⟩
end


/- the plain laws: no program in sight -/
theorem bitAnd_le (x y : Int) (hx : 0 ≤ x) (hy : 0 ≤ y) : 0 ≤ Builtin.bitAnd x y ∧ Builtin.bitAnd x y ≤ y ∧ Builtin.bitAnd x y ≤ x := by
  have h := bitAnd_range x hy
  have g := bitAnd_range y hx
  rw [bitAnd_comm] at g
  exact ⟨h.1, h.2, g.2⟩
theorem or_lt (k : Nat) : ∀ (x y : Int), 0 ≤ x → x < 2 ^ k → 0 ≤ y → y < 2 ^ k → x + y - Builtin.bitAnd x y < 2 ^ k := by
  induction k with
  | zero =>
    intro x y h0 h1 h2 h3
    simp at h1 h3 ⊢
    have := bitAnd_le x y h0 h2
    omega
  | succ k ih =>
    intro x y h0 h1 h2 h3
    rw [Int.pow_succ] at h1 h3 ⊢
    rw [PySem.W.kbt_halves]
    have i := ih (x / 2) (y / 2) (by omega) (by omega) (by omega) (by omega)
    generalize Builtin.bitAnd (x / 2) (y / 2) = q at i ⊢
    split <;> omega
theorem div_le (x d : Int) (hx : 0 ≤ x) (hd : 0 < d) : 0 ≤ x / d ∧ x / d ≤ x := ⟨Int.ediv_nonneg hx (by omega), Int.ediv_le_self d hx⟩
section
variable {P x y z : Int}
theorem l_small (h0 : 0 ≤ x) (h1 : x < P) : x % P = x := Int.emod_eq_of_lt h0 h1
theorem l_assoc : ((x + y) % P + z) % P = (x + (y + z) % P) % P := by
  rw [Int.emod_add_emod, Int.add_emod_emod, Int.add_assoc]
theorem l_succ (_hp : 0 < P) (h0 : 0 ≤ x) (h1 : x < P) : (x + 1) % P = if x = P - 1 then 0 else x + 1 := by
  split
  · rename_i e
    rw [e]
    have : P - 1 + 1 = P := by omega
    rw [this, Int.emod_self]
  · exact l_small (by omega) (by omega)
theorem l_not (hp : 0 < P) : (x + (P - 1 - x)) % P = P - 1 := by
  have : x + (P - 1 - x) = P - 1 := by omega
  rw [this]
  exact l_small (by omega) (by omega)
theorem l_neg : (-x) % P = ((P - 1 - x) + 1) % P := by
  have : P - 1 - x + 1 = -x + P := by omega
  rw [this, Int.add_emod_right]
theorem l_sub (h0 : 0 ≤ x) (h1 : x < P) : ((x + y) % P - y) % P = x := by
  rw [Int.sub_eq_add_neg, Int.emod_add_emod]
  have : x + y + -y = x := by omega
  rw [this]
  exact l_small h0 h1
theorem l_add (h0 : 0 ≤ x) (h1 : x < P) : ((x - y) % P + y) % P = x := by
  rw [Int.emod_add_emod]
  have : x - y + y = x := by omega
  rw [this]
  exact l_small h0 h1
theorem l_dist : (x * ((y + z) % P)) % P = ((x * y) % P + (x * z) % P) % P := by
  rw [Int.mul_emod x ((y + z) % P), Int.emod_emod, ← Int.mul_emod, Int.emod_add_emod, Int.add_emod_emod, Int.mul_add]
theorem l_divrest {d : Int} (hd : 0 ≤ d) (h0 : 0 ≤ x) (h1 : x < P) : (((if d = 0 then P - 1 else x / d) * d) % P + (if d = 0 then x else x % d)) % P = x := by
  split
  · rename_i e
    subst e
    rw [Int.mul_zero, Int.emod_add_emod, Int.zero_add]
    exact l_small h0 h1
  · rw [Int.emod_add_emod]
    have : x / d * d + x % d = x := by rw [Int.mul_comm]; exact Int.mul_ediv_add_emod x d
    rw [this]
    exact l_small h0 h1
end
theorem and_bits (k : Nat) : ∀ (x y : Int), Builtin.bitAnd x y / 2 ^ k = Builtin.bitAnd (x / 2 ^ k) (y / 2 ^ k) := by
  induction k with
  | zero => intro x y; simp
  | succ k ih =>
    intro x y
    have e : ∀ a : Int, a / 2 ^ (k + 1) = a / 2 / 2 ^ k := fun a => by
      rw [Int.pow_succ, Int.mul_comm, Int.ediv_ediv_of_nonneg (by decide)]
    rw [e, e x, e y, ← ih]
    have h := PySem.W.kbt_halves x y
    have : Builtin.bitAnd x y / 2 = Builtin.bitAnd (x / 2) (y / 2) := by
      generalize Builtin.bitAnd (x / 2) (y / 2) = q at h ⊢
      generalize Builtin.bitAnd x y = r at h ⊢
      split at h <;> omega
    rw [this]
theorem and_bit (x y : Int) : Builtin.bitAnd x y % 2 = if x % 2 = 1 ∧ y % 2 = 1 then 1 else 0 := by
  have h := PySem.W.kbt_halves x y
  generalize Builtin.bitAnd (x / 2) (y / 2) = q at h
  generalize Builtin.bitAnd x y = r at h ⊢
  split at h <;> (split <;> omega)
theorem or_halves (x y : Int) : Builtin.bitOr x y / 2 = Builtin.bitOr (x / 2) (y / 2) ∧ Builtin.bitOr x y % 2 = if x % 2 = 1 ∨ y % 2 = 1 then 1 else 0 := by
  rw [bitOr_and, bitOr_and]
  have h := PySem.W.kbt_halves x y
  generalize Builtin.bitAnd (x / 2) (y / 2) = q at h ⊢
  generalize Builtin.bitAnd x y = r at h ⊢
  split at h <;> (split <;> (constructor <;> omega))
theorem xor_halves (x y : Int) : Builtin.bitXor x y / 2 = Builtin.bitXor (x / 2) (y / 2) ∧ Builtin.bitXor x y % 2 = if x % 2 = y % 2 then 0 else 1 := by
  rw [bitXor_and, bitXor_and]
  have h := PySem.W.kbt_halves x y
  generalize Builtin.bitAnd (x / 2) (y / 2) = q at h ⊢
  generalize Builtin.bitAnd x y = r at h ⊢
  split at h <;> (split <;> (constructor <;> omega))
theorem bits_by {f : Int → Int → Int} (hf : ∀ x y, f x y / 2 = f (x / 2) (y / 2)) (k : Nat) : ∀ (x y : Int), f x y / 2 ^ k = f (x / 2 ^ k) (y / 2 ^ k) := by
  induction k with
  | zero => intro x y; simp
  | succ k ih =>
    intro x y
    have e : ∀ a : Int, a / 2 ^ (k + 1) = a / 2 / 2 ^ k := fun a => by
      rw [Int.pow_succ, Int.mul_comm, Int.ediv_ediv_of_nonneg (by decide)]
    rw [e, e x, e y, hf, ih]
theorem bit_and (x y : Int) (k : Nat) : Builtin.bitAnd x y / 2 ^ k % 2 = min (x / 2 ^ k % 2) (y / 2 ^ k % 2) := by
  rw [and_bits, and_bit]
  generalize x / 2 ^ k = a
  generalize y / 2 ^ k = b
  split <;> omega
theorem bit_or (x y : Int) (k : Nat) : Builtin.bitOr x y / 2 ^ k % 2 = max (x / 2 ^ k % 2) (y / 2 ^ k % 2) := by
  rw [bits_by (fun x y => (or_halves x y).1), (or_halves _ _).2]
  generalize x / 2 ^ k = a
  generalize y / 2 ^ k = b
  split <;> omega
theorem bit_xor (x y : Int) (k : Nat) : Builtin.bitXor x y / 2 ^ k % 2 = if x / 2 ^ k % 2 = y / 2 ^ k % 2 then 0 else 1 := by
  rw [bits_by (fun x y => (xor_halves x y).1), (xor_halves _ _).2]

def bsum (x : Int) : Nat → Int
  | 0 => 0
  | k + 1 => bsum x k + 2 ^ k * (x / 2 ^ k % 2)
theorem bsum_eq (x : Int) : ∀ k : Nat, bsum x k = x % 2 ^ k := by
  intro k
  induction k with
  | zero => simp [bsum, Int.emod_one]
  | succ k ih =>
    rw [bsum, ih]
    have hp := PySem.W.kbt_pos k
    have a := Int.mul_ediv_add_emod x (2 ^ k)
    have b := Int.mul_ediv_add_emod (x / 2 ^ k) 2
    have c : x = 2 ^ (k + 1) * (x / 2 ^ k / 2) + (2 ^ k * (x / 2 ^ k % 2) + x % 2 ^ k) := by
      rw [Int.pow_succ, Int.mul_assoc, ← Int.add_assoc, ← Int.mul_add, b, a]
    have r0 := Int.emod_nonneg x (show (2 : Int) ^ k ≠ 0 by omega)
    have r1 := Int.emod_lt_of_pos x hp
    have d0 : 0 ≤ 2 ^ k * (x / 2 ^ k % 2) + x % 2 ^ k ∧ 2 ^ k * (x / 2 ^ k % 2) + x % 2 ^ k < 2 ^ (k + 1) := by
      rw [Int.pow_succ]
      rcases (show x / 2 ^ k % 2 = 0 ∨ x / 2 ^ k % 2 = 1 by omega) with e | e <;> rw [e] <;> omega
    have g : x % 2 ^ (k + 1) = (2 ^ k * (x / 2 ^ k % 2) + x % 2 ^ k) % 2 ^ (k + 1) := by
      conv => lhs; rw [c]
      rw [Int.mul_add_emod_self_left]
    rw [g, Int.emod_eq_of_lt d0.1 d0.2]
    omega
theorem l_joint {x : Int} {k m : Nat} (h0 : 0 ≤ x) (h1 : x < 2 ^ (m + k)) : (x / 2 ^ k % 2 ^ m) * 2 ^ k + x % 2 ^ k = x := by
  have hp := PySem.W.kbt_pos k
  have q : x / 2 ^ k % 2 ^ m = x / 2 ^ k := Int.emod_eq_of_lt (Int.ediv_nonneg h0 (by omega)) (Int.ediv_lt_of_lt_mul hp (by rw [← Int.pow_add]; exact h1))
  rw [q, Int.mul_comm]
  exact Int.mul_ediv_add_emod x _
theorem l_hi {x y : Int} {n : Nat} (hx0 : 0 ≤ x) (hx1 : x < 2 ^ n) (hy0 : 0 ≤ y) (hy1 : y < 2 ^ n) : (x * 2 ^ n + y) / 2 ^ n % 2 ^ n = x ∧ (x * 2 ^ n + y) % 2 ^ n = y := by
  have hp := PySem.W.kbt_pos n
  have e : x * 2 ^ n + y = y + 2 ^ n * x := by rw [Int.add_comm, Int.mul_comm]
  rw [e, Int.add_mul_ediv_left _ _ (by omega), Int.add_mul_emod_self_left, Int.ediv_eq_zero_of_lt hy0 hy1, Int.zero_add]
  exact ⟨Int.emod_eq_of_lt hx0 hx1, Int.emod_eq_of_lt hy0 hy1⟩
theorem two_range {op : Str} {x y n : Int} (hx0 : 0 ≤ x) (hx1 : x < 2 ^ n.toNat) (hy0 : 0 ≤ y) (hy1 : y < 2 ^ n.toNat)
    (hop : op = Str.ofString "bvand" ∨ op = Str.ofString "bvor" ∨ op = Str.ofString "bvxor" ∨ op = Str.ofString "bvadd" ∨ op = Str.ofString "bvsub" ∨ op = Str.ofString "bvmul" ∨ op = Str.ofString "bvshl" ∨ op = Str.ofString "bvlshr" ∨ op = Str.ofString "bvudiv" ∨ op = Str.ofString "bvurem") :
    0 ≤ two op x y n ∧ two op x y n < 2 ^ n.toNat := by
  have hp := PySem.W.kbt_pos n.toNat
  have ha := bitAnd_le x y hx0 hy0
  have ho := or_lt n.toNat x y hx0 hx1 hy0 hy1
  have md : ∀ z : Int, 0 ≤ z % 2 ^ n.toNat ∧ z % 2 ^ n.toNat < 2 ^ n.toNat := fun z => ⟨Int.emod_nonneg _ (by omega), Int.emod_lt_of_pos _ hp⟩
  rcases hop with rfl | rfl | rfl | rfl | rfl | rfl | rfl | rfl | rfl | rfl
  · rw [two_bvand]; omega
  · rw [two_bvor, bitOr_and]; omega
  · rw [two_bvxor, bitXor_and]; omega
  · rw [two_bvadd]; exact md _
  · rw [two_bvsub]; exact md _
  · rw [two_bvmul]; exact md _
  · rw [two_bvshl]; split
    · omega
    · exact md _
  · rw [two_bvlshr]; split
    · omega
    · have := div_le x (2 ^ y.toNat) hx0 (PySem.W.kbt_pos _); omega
  · rw [two_bvudiv]; split
    · omega
    · have := div_le x y hx0 (by omega); omega
  · rw [two_bvurem]; split
    · omega
    · have := Int.emod_lt_of_pos x (show 0 < y by omega); have := Int.emod_nonneg x (show y ≠ 0 by omega); omega

theorem l_signed {x : Int} {n m : Nat} (hn : 1 ≤ n) (h0 : 0 ≤ x) (h1 : x < 2 ^ n) :
    (if x / 2 ^ (n - 1) = 1 then x - 2 ^ n else x) % 2 ^ (n + m) = (x / 2 ^ (n - 1) % 2) * (2 ^ m - 1) * 2 ^ n + x := by
  have hp := PySem.W.kbt_pos (n - 1)
  have hm := PySem.W.kbt_pos m
  have hN := PySem.W.kbt_pos n
  have e : (2 : Int) ^ n = 2 ^ (n - 1) * 2 := by rw [← Int.pow_succ]; congr 1; omega
  have hnm : (2 : Int) ^ (n + m) = 2 ^ m * 2 ^ n := by rw [Int.pow_add, Int.mul_comm]
  have q0 : 0 ≤ x / 2 ^ (n - 1) := Int.ediv_nonneg h0 (by omega)
  have q1 : x / 2 ^ (n - 1) < 2 := Int.ediv_lt_of_lt_mul hp (by rw [Int.mul_comm, ← e]; exact h1)
  have big : (2 : Int) ^ n ≤ 2 ^ m * 2 ^ n := by
    have := Int.mul_le_mul_of_nonneg_right (show (1 : Int) ≤ 2 ^ m by omega) (show (0 : Int) ≤ 2 ^ n by omega)
    omega
  rcases (show x / 2 ^ (n - 1) = 0 ∨ x / 2 ^ (n - 1) = 1 by omega) with q | q
  · rw [q]
    simp only [show ((0 : Int) = 1) = False from by simp, if_false]
    rw [hnm, Int.emod_eq_of_lt h0 (by omega)]
    simp
  · rw [q]
    simp only [if_true]
    have s1 : (1 : Int) % 2 = 1 := by decide
    rw [s1, Int.one_mul, hnm, Int.sub_mul, Int.one_mul]
    have g : (x - 2 ^ n) % (2 ^ m * 2 ^ n) = (x - 2 ^ n + 2 ^ m * 2 ^ n) % (2 ^ m * 2 ^ n) := by rw [Int.add_emod_right]
    rw [g, Int.emod_eq_of_lt (by omega) (by omega)]
    omega
theorem l_both {x : Int} {n m : Nat} (hn : 1 ≤ n) (h0 : 0 ≤ x) (h1 : x < 2 ^ n) :
    (if x / 2 ^ (n - 1) = 1 then x - 2 ^ n else x) % 2 ^ (n + m) + (if (2 ^ n - 1 - x) / 2 ^ (n - 1) = 1 then (2 ^ n - 1 - x) - 2 ^ n else (2 ^ n - 1 - x)) % 2 ^ (n + m) = 2 ^ (n + m) - 1 := by
  have hp := PySem.W.kbt_pos (n - 1)
  have hN := PySem.W.kbt_pos n
  have e : (2 : Int) ^ n = 2 ^ (n - 1) * 2 := by rw [← Int.pow_succ]; congr 1; omega
  have hnm : (2 : Int) ^ (n + m) = 2 ^ m * 2 ^ n := by rw [Int.pow_add, Int.mul_comm]
  rw [l_signed hn h0 h1, l_signed hn (by omega) (by omega)]
  have q0 : 0 ≤ x / 2 ^ (n - 1) := Int.ediv_nonneg h0 (by omega)
  have q1 : x / 2 ^ (n - 1) < 2 := Int.ediv_lt_of_lt_mul hp (by rw [Int.mul_comm, ← e]; exact h1)
  have r : (2 ^ n - 1 - x) / 2 ^ (n - 1) = 1 - x / 2 ^ (n - 1) := by
    have a := Int.mul_ediv_add_emod x (2 ^ (n - 1))
    have b0 := Int.emod_nonneg x (show (2 : Int) ^ (n - 1) ≠ 0 by omega)
    have b1 := Int.emod_lt_of_pos x hp
    refine (kbt_unique (r := 2 ^ (n - 1) - 1 - x % 2 ^ (n - 1)) hp ?_ (by omega) (by omega)).1
    rw [Int.mul_sub, Int.mul_one]
    omega
  rw [r, hnm]
  rcases (show x / 2 ^ (n - 1) = 0 ∨ x / 2 ^ (n - 1) = 1 by omega) with q | q <;> rw [q]
  · simp only [show (0 : Int) % 2 = 0 from rfl, show ((1 : Int) - 0) % 2 = 1 from rfl, Int.zero_mul, Int.one_mul, Int.sub_mul]
    omega
  · simp only [show (1 : Int) % 2 = 1 from rfl, show ((1 : Int) - 1) % 2 = 0 from rfl, Int.zero_mul, Int.one_mul, Int.sub_mul]
    omega

abbrev bvT (x n : Int) (t1 t2 t3 : Tok) : Obj := tupO #[.str (Str.ofString "bv") t1, .int x t2, .int n t3] 0
inductive Told3 (news : Led) (x n : Int) (r : Value) (news' : Led) : Prop
  | mk (D : Addr) (t1 t2 t3 : Tok) (hr : r = .ref D) (hm : (D, bvT x n t1 t2 t3) ∈ news') (hs : ∀ p ∈ news, p ∈ news') : Told3 news x n r news'
noncomputable abbrev S749 : Scope := scopeOf (pickS 35)
inductive BvIn (nw : Led) (T : Addr) (x n : Int) : Prop
  | mk (t1 t2 t3 : Tok) (h : (T, bvT x n t1 t2 t3) ∈ nw) : BvIn nw T x n
section
variable {w : World} {S : Scope} {z : Nat} {c : Fx w S z} {l : FL} {I : Led → Prop} {V T : Addr} {Ts : List Value} {x n : Int} {ea : PySem.Expr} {y : Str} {p1 p2 p3 p4 p5 : Pos} {k k2 : Int} {kk k3 : Tok}
theorem ei_val (hv : Ei c c.env l I (.Name y p1) (isR V) I) (hm : ∀ nw, I nw → (V, tupO Ts.toArray 0) ∈ nw) (hx : Ts[k.toNat]? = some (.ref T)) (h0 : 0 ≤ k) (hk : k < 1000) : Ei c c.env l I (.Subscript (.Name y p1) (.Constant (.int k) kk p2) p3) (isR T) I :=
  ei_titem hv (fun nw i => ⟨Ts, 0, _, hm nw i, hx, rfl⟩) h0 hk fun t => by with_unfolding_all rfl
theorem ei_valN (hv : Ei c c.env l I ea (isR T) I) (hm : ∀ nw, I nw → BvIn nw T x n) : Ei c c.env l I (.Subscript ea (.Constant (.int 1) kk p2) p3) (isI x) I :=
  ei_titem hv (fun nw i => let ⟨_, t2, _, h⟩ := hm nw i; ⟨_, 0, _, h, rfl, t2, rfl⟩) (by decide) (by decide) fun t => by with_unfolding_all rfl
theorem ei_valW (hv : Ei c c.env l I ea (isR T) I) (hm : ∀ nw, I nw → BvIn nw T x n) : Ei c c.env l I (.Subscript ea (.Constant (.int 2) kk p2) p3) (isI n) I :=
  ei_titem hv (fun nw i => let ⟨_, _, t3, h⟩ := hm nw i; ⟨_, 0, _, h, rfl, t3, rfl⟩) (by decide) (by decide) fun t => by with_unfolding_all rfl
end
section
variable {w : World} {b : BA} {ts : List Term} {ws : List Int} {c : Nat} {news : Led} {op : Str} {t so x wx y wy wd v : Int} {d : Sum Int (Int × Int)} {tk : Tok} {V T1 T2 : Addr} {vs : List Value}
abbrev LB (b : BA) (t : Int) (tk : Tok) (V : Addr) (op : Str) (x wd : Int) : FL := (Str.ofString "first", isI x) :: (Str.ofString "op", isS op) :: (Str.ofString "width", isI wd) :: lOf (List.reverse [(Str.ofString "bank", Value.ref b.M.B), (Str.ofString "t", .int t tk), (Str.ofString "values", .ref V)])
def Picks (w : World) (b : BA) (news : Led) (t : Int) (tk : Tok) (V : Addr) (op : Str) (x wd v : Int) : Prop := ∀ (c : Fx w S749 7), Sf c (Ext news) (LB b t tk V op x wd) [(bodyOf (pickS 35)).getD 2 (.Pass ⟨0, 0, 0, 0⟩)] ((Str.ofString "found", isI v) :: LB b t tk V op x wd) (Ext news)
theorem spec_bits (w : World) (hb : FB w b ts ws c news) (h0 : 0 ≤ t) (hx : ts[t.toNat]? = some (op, so, d)) (hs0 : 0 ≤ so) (hw : ws[so.toNat]? = some wd) (hV : (V, tupO (List.toArray (.ref T1 :: vs)) 0) ∈ news) (hT : BvIn news T1 x wx) (hP : Picks w b news t tk V op x wd v) :
   Spec w 749 8 news [.ref b.M.B, .int t tk, .ref V] (Told3 news v wd) := by
  have hW : ∀ nw, Ext news nw → HasW w b t (op, so, d) wd nw := fun nw q => HasW.ext ⟨ts, ws, _, hb, ⟨h0, hx⟩, hs0, hw⟩ q
  refine spec_def (o := o749) (binds := [(Str.ofString "bank", Value.ref b.M.B), (Str.ofString "t", .int t tk), (Str.ofString "values", .ref V)]) (by kernel_rfl) rfl (by kernel_rfl) rfl (locs rfl) rfl rfl rfl (by decide) fun c _ => sr_pre (I := Ext news) ?_ fun nw e p hp => by rw [show nw = news from e]; exact hp
  refine sr_tup2 (I2 := Ext news) (U1 := isS op) (U2 := isI wd) (by kernel_rfl) (by kernel_rfl) rfl rfl (eil_cons rfl (ei_methQ [.I t] (sz := 1) bm_op (ei_name rfl) (fun nw i => (hW nw i).tm.bs) (fun es af => af.op) rfl rfl (eil_cons rfl (ei_name rfl) eil_nil) rfl rfl fun nw i _ => spec_op w (hb.mono i) h0 hx) (eil_cons rfl (ei_width hW (ei_name rfl) (ei_name rfl) rfl rfl rfl) eil_nil)) (fun e nw i p hp => .tail _ (i p hp)) ?_
  refine si_set (U := isI x) rfl (by kernel_rfl) (ei_valN (ei_val (ei_name rfl) (fun nw i => i _ hV) rfl (by decide) (by decide)) fun nw i => let ⟨a, b, c, h⟩ := hT; ⟨a, b, c, i _ h⟩) ?_
  refine sx_app (hP c) (sr_mono (sr_ret (eg_tuple (eil_cons rfl ei_str (eil_cons rfl (ei_name rfl) (eil_cons rfl (ei_name rfl) eil_nil))) fun vs nw j => by rw [alls_len j.1]; exact Nat.le_of_ble_eq_true rfl)) ?_)
  rintro u nw ⟨D, vs, n0, hu, hn, ⟨hA, q⟩, _⟩
  obtain ⟨v1, v2, v3, e0, ⟨t1, e1⟩, ⟨t2, e2⟩, ⟨t3, e3⟩⟩ := alls3 hA
  subst e0 e1 e2 e3 hn
  exact ⟨D, t1, t2, t3, hu, .head _, fun p hp => .tail _ (q p hp)⟩
theorem items2_of {prog : Program} {w : World} {i j : Int} {vs : List Value} (h : ItemsAre (intKind prog w) [i, j] vs) : ∃ t u, vs = [.int i t, .int j u] := by
  cases h with
  | cons h1 h =>
    cases h with
    | cons h2 h =>
      cases h
      obtain ⟨t, rfl⟩ := Value.isInt_shape h1
      obtain ⟨u, rfl⟩ := Value.isInt_shape h2
      exact ⟨t, u, rfl⟩
theorem pick_len {z : Nat} {c : Fx w S749 z} {n : Nat} {Ts : List Value} {p1 p2 p3 p4 p5 : Pos} {k : Tok} (hV : (V, tupO Ts.toArray 0) ∈ news) (hn : Ts.length = n) (h : Nat.ble n 1000 = true) : Et c c.env (LB b t tk V op x wd) (Ext news) (.Compare (.Call (.Name (Str.ofString "len") p1) [.Name (Str.ofString "values") p2] [] p3) [.Eq] [.Constant (.int 1) k p4] p5) ((n : Int) == 1) (Ext news) :=
  ti_eqI (ei_lenT (ei_blt (by kernel_rfl) (by decide) (by decide) (by kernel_rfl) (by kernel_rfl)) rfl (ei_name rfl) (fun nw i => ⟨_, 0, i _ hV, by rw [List.size_toArray]; exact hn⟩) (Nat.lt_of_le_of_lt (Nat.le_of_ble_eq_true h) (by decide))) ei_int
variable (w : World) (hb : FB w b ts ws c news) (h0 : 0 ≤ t) (hs0 : 0 ≤ so) (hw : ws[so.toNat]? = some wd) (h1 : 1 ≤ wd) (h2 : wd ≤ 150)
include hb h0 hs0 hw h1 h2
theorem spec_bits_one (hV : (V, tupO #[.ref T1] 0) ∈ news) (hT : BvIn news T1 x wx) (hop : op = Str.ofString "bvnot" ∨ op = Str.ofString "bvneg") (hx : ts[t.toNat]? = some (op, so, .inl 0)) :
   Spec w 749 8 news [.ref b.M.B, .int t tk, .ref V] (Told3 news (one op x wd) wd) := by
  have n0 : (op == Str.ofString "extract") = false ∧ (op == Str.ofString "zero_extend") = false ∧ (op == Str.ofString "sign_extend") = false := by rcases hop with rfl | rfl <;> decide
  exact spec_bits w hb h0 hx hs0 hw hV hT fun c => sr_ifB (pick_len hV rfl rfl) (sr_ifB (ti_to (ti_eqS (ei_name rfl) ei_str) n0.1) (sr_ifB (ti_to (ti_eqS (ei_name rfl) ei_str) n0.2.1) (sr_ifB (ti_to (ti_eqS (ei_name rfl) ei_str) n0.2.2)
    (si_set rfl (by kernel_rfl) (ei_callQ [.S _, .I _, .I _] (f := 156) (sz := 4) ei_glob (by kernel_rfl) rfl rfl (eil_cons rfl (ei_name rfl) (eil_cons rfl (ei_name rfl) (eil_cons rfl (ei_name rfl) eil_nil))) fun nw _ _ _ => spec_one w h1 (by omega) hop) (sf_nil (fun _ i => i) fun _ fo => fo))
    (sf_nil (fun _ i => i) fun _ fo => fo)) (sf_nil (fun _ i => i) fun _ fo => fo)) (sf_nil (fun _ i => i) fun _ fo => fo)) (sf_nil (fun _ i => i) fun _ fo => fo)
theorem spec_bits_extract {high low : Int} (hV : (V, tupO #[.ref T1] 0) ∈ news) (hT : BvIn news T1 x wx) (hx : ts[t.toNat]? = some (Str.ofString "extract", so, .inr (high, low))) (hl0 : 0 ≤ low) (hl1 : low ≤ high) (hl2 : high ≤ 150) :
   Spec w 749 8 news [.ref b.M.B, .int t tk, .ref V] (Told3 news ((x / 2 ^ low.toNat) % 2 ^ (high - low + 1).toNat) wd) := by
  have hT' : HasT w b t (Str.ofString "extract", so, .inr (high, low)) news := ⟨ts, ws, _, hb, h0, hx⟩
  obtain ⟨arr, e, v, m1, m2, ⟨a, ea, vs, n, m3, hi⟩, l0, l1⟩ := hT'.datas
  obtain ⟨vs⟩ := vs
  obtain ⟨u1, u2, e3⟩ := items2_of hi
  have e3 : vs = _ := e3
  subst ea e3
  have hd : ∀ {c : Fx w S749 7} {p1 p2 p3 p4 : Pos} (_ : (p2.endLine == p3.line) = true), Ei c c.env (LB b t tk V (Str.ofString "extract") x wd) (Ext news) (.Call (.Attribute (.Name (Str.ofString "bank") p1) (Str.ofString "data") p2) [.Name (Str.ofString "t") p4] [] p3) (isR a) (Ext news) := fun hl => ei_methQ [.I t] (sz := 1) bm_data (ei_name rfl) (fun nw i => ⟨ts, ws, _, hb.mono i⟩) (fun es af => af.data) rfl rfl (eil_cons rfl (ei_name rfl) eil_nil) rfl hl fun nw i _ => spec_data w (hb.mono i) ⟨arr, e, _, i _ m1, m2, rfl, l0, l1⟩
  exact spec_bits w hb h0 hx hs0 hw hV hT fun c => sr_ifB (pick_len hV rfl rfl) (sr_ifB (ti_to (β' := true) (ti_eqS (ei_name rfl) ei_str) (by decide))
    (si_set rfl (by kernel_rfl) (ei_callQ [.I _, .I _, .I _] (f := 191) (sz := 4) ei_glob (by kernel_rfl) rfl rfl (eil_cons rfl (ei_name rfl) (eil_cons rfl (ei_titem (V := isI high) (hd rfl) (fun nw i => ⟨_, n, _, i _ m3, rfl, u1, rfl⟩) (by decide) (by decide) fun t => by with_unfolding_all rfl) (eil_cons rfl (ei_titem (V := isI low) (hd rfl) (fun nw i => ⟨_, n, _, i _ m3, rfl, u2, rfl⟩) (by decide) (by decide) fun t => by with_unfolding_all rfl) eil_nil))) fun nw _ _ _ => spec_extr w hl0 hl1 hl2) (sf_nil (fun _ i => i) fun _ fo => fo))
    (sf_nil (fun _ i => i) fun _ fo => fo)) (sf_nil (fun _ i => i) fun _ fo => fo)
theorem spec_bits_zext {m : Int} (hV : (V, tupO #[.ref T1] 0) ∈ news) (hT : BvIn news T1 x wx) (hx : ts[t.toNat]? = some (Str.ofString "zero_extend", so, .inl m)) :
   Spec w 749 8 news [.ref b.M.B, .int t tk, .ref V] (Told3 news x wd) :=
  spec_bits w hb h0 hx hs0 hw hV hT fun c => sr_ifB (pick_len hV rfl rfl) (sr_ifB (ti_to (β' := false) (ti_eqS (ei_name rfl) ei_str) (by decide)) (sr_ifB (ti_to (β' := true) (ti_eqS (ei_name rfl) ei_str) (by decide))
    (si_set rfl (by kernel_rfl) (ei_name rfl) (sf_nil (fun _ i => i) fun _ fo => fo)) (sf_nil (fun _ i => i) fun _ fo => fo)) (sf_nil (fun _ i => i) fun _ fo => fo)) (sf_nil (fun _ i => i) fun _ fo => fo)
theorem spec_bits_sext {m : Int} (hV : (V, tupO #[.ref T1] 0) ∈ news) (hT : BvIn news T1 x wx) (hx : ts[t.toNat]? = some (Str.ofString "sign_extend", so, .inl m)) (hm : 0 ≤ m) (g1 : 1 ≤ wx) (g2 : wx + m ≤ 150) :
   Spec w 749 8 news [.ref b.M.B, .int t tk, .ref V] (Told3 news (signed x wx % 2 ^ (wx + m).toNat) wd) :=
  spec_bits w hb h0 hx hs0 hw hV hT fun c => sr_ifB (pick_len hV rfl rfl) (sr_ifB (ti_to (β' := false) (ti_eqS (ei_name rfl) ei_str) (by decide)) (sr_ifB (ti_to (β' := false) (ti_eqS (ei_name rfl) ei_str) (by decide)) (sr_ifB (ti_to (β' := true) (ti_eqS (ei_name rfl) ei_str) (by decide))
    (si_set rfl (by kernel_rfl) (ei_callQ [.I _, .I _, .I _] (f := 205) (sz := 6) ei_glob (by kernel_rfl) rfl rfl (eil_cons rfl (ei_name rfl) (eil_cons rfl (ei_valW (ei_val (ei_name rfl) (fun nw i => i _ hV) rfl (by decide) (by decide)) fun nw i => let ⟨a, b, c, h⟩ := hT; ⟨a, b, c, i _ h⟩) (eil_cons rfl (ei_methQ [.I t] (sz := 1) (V := isI m) bm_data (ei_name rfl) (fun nw i => ⟨ts, ws, _, hb.mono i⟩) (fun es af => af.data) rfl rfl (eil_cons rfl (ei_name rfl) eil_nil) rfl rfl fun nw i _ => spec_data w (hb.mono i) (HasT.datas ⟨ts, ws, _, hb.mono i, h0, hx⟩)) eil_nil))) fun nw _ _ _ => spec_sext w g1 (by omega) hm (by omega)) (sf_nil (fun _ i => i) fun _ fo => fo))
    (sf_nil (fun _ i => i) fun _ fo => fo)) (sf_nil (fun _ i => i) fun _ fo => fo)) (sf_nil (fun _ i => i) fun _ fo => fo)) (sf_nil (fun _ i => i) fun _ fo => fo)
theorem spec_bits_conc (hV : (V, tupO #[.ref T1, .ref T2] 0) ∈ news) (hT : BvIn news T1 x wx) (hU : BvIn news T2 y wy) (hx : ts[t.toNat]? = some (Str.ofString "concat", so, .inl 0)) (g0 : 0 ≤ wy) (g1 : wy ≤ 150) (hbx : Builtin.Int.intBits x ≤ 160) (hy0 : 0 ≤ y) (hy1 : y < 2 ^ wy.toNat) :
   Spec w 749 8 news [.ref b.M.B, .int t tk, .ref V] (Told3 news (x * 2 ^ wy.toNat + y) wd) :=
  have hU' : ∀ nw, Ext news nw → BvIn nw T2 y wy := fun nw i => let ⟨a, b, c, h⟩ := hU; ⟨a, b, c, i _ h⟩
  spec_bits w hb h0 hx hs0 hw hV hT fun c => sr_ifB (pick_len hV rfl rfl) (sr_ifB (ti_to (β' := true) (ti_eqS (ei_name rfl) ei_str) (by decide))
    (si_set rfl (by kernel_rfl) (ei_callQ [.I _, .I _, .I _] (f := 198) (sz := 4) ei_glob (by kernel_rfl) rfl rfl (eil_cons rfl (ei_name rfl) (eil_cons rfl (ei_valN (ei_val (ei_name rfl) (fun nw i => i _ hV) rfl (by decide) (by decide)) hU') (eil_cons rfl (ei_valW (ei_val (ei_name rfl) (fun nw i => i _ hV) rfl (by decide) (by decide)) hU') eil_nil))) fun nw _ _ _ => spec_conc w g0 g1 hbx hy0 hy1) (sf_nil (fun _ i => i) fun _ fo => fo))
    (sf_nil (fun _ i => i) fun _ fo => fo)) (sf_nil (fun _ i => i) fun _ fo => fo)
theorem spec_bits_two (hV : (V, tupO #[.ref T1, .ref T2] 0) ∈ news) (hT : BvIn news T1 x wx) (hU : BvIn news T2 y wy) (hx0 : 0 ≤ x) (hx1 : x < 2 ^ wd.toNat) (hy0 : 0 ≤ y) (hy1 : y < 2 ^ wd.toNat) (hop : Two op) (hx : ts[t.toNat]? = some (op, so, .inl 0)) :
   Spec w 749 8 news [.ref b.M.B, .int t tk, .ref V] (Told3 news (two op x y wd) wd) :=
  have hU' : ∀ nw, Ext news nw → BvIn nw T2 y wy := fun nw i => let ⟨a, b, c, h⟩ := hU; ⟨a, b, c, i _ h⟩
  spec_bits w hb h0 hx hs0 hw hV hT fun c => sr_ifB (pick_len hV rfl rfl) (sr_ifB (ti_to (ti_eqS (ei_name rfl) ei_str) (two_same hop).2.2) (sr_ifB (ti_inT (d := 206) (dd := none) (n := 0) (sl := #[]) (ei_name rfl) (by kernel_rfl) (by decide) (by kernel_rfl) (by kernel_rfl) same_strs (two_same hop).1)
    (si_set rfl (by kernel_rfl) (ei_callQ [.S _, .I _, .I _, .I _] (f := 184) (sz := 5) ei_glob (by kernel_rfl) rfl rfl (eil_cons rfl (ei_name rfl) (eil_cons rfl (ei_name rfl) (eil_cons rfl (ei_valN (ei_val (ei_name rfl) (fun nw i => i _ hV) rfl (by decide) (by decide)) hU') (eil_cons rfl (ei_name rfl) eil_nil)))) fun nw _ _ _ _ => spec_two w h1 (by omega) hx0 hx1 hy0 hy1 hop) (sf_nil (fun _ i => i) fun _ fo => fo))
    (sf_nil (fun _ i => i) fun _ fo => fo)) (sf_nil (fun _ i => i) fun _ fo => fo)) (sf_nil (fun _ i => i) fun _ fo => fo)
end

section
open LCg
variable {prog : Program} {w : World} {A : Around} {E : Value → Shared → Prop} {s : Shared} {h₀ : Heap} {L : Addr} {m : Str → Option Value} {env : Env}
def TurnEnd (h₀ : Heap) (L : Addr) (m : Str → Option Value) (s₁ : Shared) (I : Addr) (oI : Obj) (C : Addr) (oC : Obj) (D : Addr) (oD : Obj) (J : Value → Led → Prop) (y : Value) (s₂ : Shared) : Prop :=
  ∃ h' tk nw, s₂ = { s₁ with heap := h', toks := tk } ∧ Fr h₀ L h' m ∧ News h₀ L h' ((I, oI) :: (C, oC) :: (D, oD) :: nw) ∧ Off3 I C D nw ∧ J y nw
def TurnDo (prog : Program) (w : World) (A : Around) (h₀ : Heap) (L : Addr) (m : Str → Option Value) (env : Env) (elt : PySem.Expr) (scope : Scope) (cl : List (Str × Addr)) (s : Shared) (news : Led) (I : Addr) (n : Nat) (KI : Obj → Prop) (Asg : Nat → (Str → Option Value) → Prop) (J : Nat → List Value → Led → Prop) : Prop :=
  ∀ i ys nw oI C oC D m₂ h tk (E' : Value → Shared → Prop), i < n → Asg i m₂ → J i ys nw → KI oI → NsObj oC m₂ → Fr h₀ L h m → News h₀ L h ((I, oI) :: (C, oC) :: (D, lst ys) :: nw) → Off3 I C D nw → ((@Ne Nat I C) ∧ (@Ne Nat I D) ∧ (@Ne Nat C D)) →
    (∀ p ∈ news, @LT.lt Nat _ p.1 I ∧ @LT.lt Nat _ p.1 C ∧ @LT.lt Nat _ p.1 D) →
    wpAny (model prog w) A (eval elt (compEnvC scope cl C env)) (TurnEnd h₀ L m { s with heap := h, toks := tk } I oI C oC D (lst ys) fun y nw' => J (i + 1) (ys ++ [y]) nw') E' { s with heap := h, toks := tk }

theorem comp_block {elt iter target : PySem.Expr} {scope : Scope} {cl : List (Str × Addr)} {pos : Pos} {s₂ : Shared} {I : Addr} {fp : List Addr} {n : Nat} {P : Nat → Value → Prop} {St : Nat → Heap → Prop} {KI : Obj → Prop} {Asg : Nat → (Str → Option Value) → Prop} {J : Nat → List Value → Led → Prop} {news : Led}
    {RR : Value → Addr → Result → Shared → Prop}
    (W : Walks prog w A I fp [I] n P St) (hsz : n ≤ sizeLine) (hIo : ∀ i h, St i h → ∃ o, h.get? I = some o ∧ KI o)
    (hSt : ∀ i h h' o nw ys, St i h → h.get? I = some o → h'.get? I = some o → News h₀ L h' nw → J i ys nw → St i h')
    (hasg : ∀ i v C m' nw ys (s' : Shared) (Q : Unit → Shared → Prop) (E' : Value → Shared → Prop), P i v → St (i + 1) s'.heap → J i ys nw → News h₀ L s'.heap nw → s'.heap.Ns C m' → C ≠ I →
      (∀ h' tk m₂, Asg i m₂ → h'.Ns C m₂ → (∀ c o, c ≠ C → s'.heap.get? c = some o → h'.get? c = some o) → Q () { s' with heap := h', toks := tk }) →
      wpAny (model prog w) A (letOwnedTupleGo target (.ref I) v) (fun _ s₁ => wpAny (model prog w) A (assign target (compEnvC scope cl C env) v) Q E' s₁) E' s')
    (hcell : ∀ y ∈ scope.names, y.2 ≠ .cell) (hkind : scope.kind = .function) (hst : St 0 s₂.heap) (hfp : ∀ b ∈ fp, b < s₂.heap.objs.size)
    (F : Fr h₀ L s₂.heap m) (N : News h₀ L s₂.heap news) (hIL : L ≠ I) (hI₀ : h₀.get? I = none) (off : ∀ p ∈ news, @LT.lt Nat _ p.1 I)
    (h0 : J 0 [] news) (step : TurnDo prog w A h₀ L m env elt scope cl s₂ news I n KI Asg J)
    (hRR : ∀ D C h tk m' ys news', Fr h₀ L h m → News h₀ L h ((D, lst ys) :: news') → Off1 D news' → h.Ns C m' → h₀.get? C = none → h₀.get? D = none → C ≠ L → D ≠ L → C ≠ D → (∀ p ∈ news', p.1 ≠ C) → J n ys news' → RR (.ref D) C (.ok .next) { s₂ with heap := h, toks := tk }) :
    wpAny (model prog w) A (newList []) (fun acc s₃ => wpAny (model prog w) A (newFunctionEnv scope env.globals cl [] env.qual none .none (some env)) (fun cenv s₄ =>
      codeAny (model prog w) A (.compStart (.ListComp elt [⟨target, iter, [], 0⟩] scope pos) 0 (.ref I) acc { cenv with scope := relabel scope env }) (RR acc cenv.locals) s₄) E s₃) E s₂ := by
  refine wpAny_newObj_type (wpAny_newFunctionEnv hcell (by intro y hy; simp at hy) (fun h₁ hns₁ hsb₁ => ?_) hkind)
  dsimp only at hns₁ hsb₁ ⊢
  generalize hH : s₂.heap.push { cls := .type "list", dict := none, data := .seq ([] : List Value).toArray } = H at hns₁ hsb₁ ⊢
  have eC : H.objs.size = s₂.heap.objs.size + 1 := by rw [← hH, Heap.size_push]
  have hDC : s₂.heap.objs.size ≠ H.objs.size := by rw [eC]; exact Nat.ne_of_lt (Nat.lt_succ_self _)
  have low : ∀ b, b < s₂.heap.objs.size → b ≠ H.objs.size ∧ b ≠ s₂.heap.objs.size := fun b hb => ⟨by rw [eC]; exact Nat.ne_of_lt (Nat.lt_succ_of_lt hb), Nat.ne_of_lt hb⟩
  have hIf : I ∈ fp := W.sub I (List.mem_singleton.mpr rfl)
  have hIlt : I < s₂.heap.objs.size := hfp I hIf
  have hDf : s₂.heap.objs.size ∉ fp := fun hm => Nat.lt_irrefl _ (hfp _ hm)
  have hCf : H.objs.size ∉ fp := fun hm => by have := hfp _ hm; rw [eC] at this; exact Nat.lt_irrefl _ (Nat.lt_of_succ_lt this)
  have old : ∀ b o, s₂.heap.get? b = some o → h₁.get? b = some o := fun b o e => hsb₁.extBut b o (low b (Heap.lt_size e)).1 (Heap.get?_push_of_some _ (hH ▸ Heap.get?_push_of_some _ e))
  have hacc : h₁.get? s₂.heap.objs.size = some (lst []) := hsb₁.extBut _ _ hDC (Heap.get?_push_of_some _ (hH ▸ Heap.get?_push_size _ rfl))
  have none_at : ∀ a, s₂.heap.objs.size ≤ a → h₀.get? a = none := fun a ha => by
    cases e : h₀.get? a with
    | none => rfl
    | some o => exact absurd (Heap.lt_size (F.keep a o e)) (Nat.not_lt.mpr ha)
  have hD₀ : h₀.get? s₂.heap.objs.size = none := none_at _ (Nat.le_refl _)
  have hC₀ : h₀.get? H.objs.size = none := none_at _ (by rw [eC]; exact Nat.le_succ _)
  have hCL : H.objs.size ≠ L := Ne.symm (low L F.ns.lt).1
  have hDL : s₂.heap.objs.size ≠ L := Ne.symm (low L F.ns.lt).2
  have hCI : I ≠ H.objs.size := (low I hIlt).1
  have hDI : I ≠ s₂.heap.objs.size := (low I hIlt).2
  have off₀ : Off3 I H.objs.size s₂.heap.objs.size news := Off3.of fun p hp => ⟨Nat.ne_of_lt (off p hp), (low _ (Heap.lt_size (N p hp).1)).1, (low _ (Heap.lt_size (N p hp).1)).2⟩
  have ord : ∀ p ∈ news, @LT.lt Nat _ p.1 I ∧ @LT.lt Nat _ p.1 H.objs.size ∧ @LT.lt Nat _ p.1 s₂.heap.objs.size := fun p hp => ⟨off p hp, by rw [eC]; exact Nat.lt_succ_of_lt (Heap.lt_size (N p hp).1), Heap.lt_size (N p hp).1⟩
  have hst₁ : St 0 h₁ := W.frame _ _ _ hst fun b _ o e => old b o e
  have loop : ∀ s₃ : Shared, s₃ = { s₂ with heap := h₁, toks := s₂.toks + ([] : List (Str × Value)).length } →
      codeAny (model prog w) A (.compLoop (.ListComp elt [⟨target, iter, [], 0⟩] scope pos) 0 (.ref I) (.ref s₂.heap.objs.size) (compEnvC scope cl H.objs.size env)) (RR (.ref s₂.heap.objs.size) H.objs.size) s₃ := by
    rintro s₃ rfl
    refine kcp_loop (fun k s' => ∃ h' tk i ys m' news', s' = { s₂ with heap := h', toks := tk } ∧ i ≤ n ∧ k = n + 1 - i ∧ ys.length = i ∧ St i h' ∧ Fr h₀ L h' m ∧ h'.Ns H.objs.size m' ∧
        News h₀ L h' ((s₂.heap.objs.size, lst ys) :: news') ∧ Off3 I H.objs.size s₂.heap.objs.size news' ∧ J i ys news') ?_ (n + 1)
      ⟨h₁, _, 0, [], _, news, rfl, Nat.zero_le _, rfl, rfl, hst₁, F.keeps old, hns₁, fun p hp => ?_, off₀, h0⟩
    rotate_left
    · rcases List.mem_cons.mp hp with rfl | hp
      · exact ⟨hacc, hDL, hD₀⟩
      · exact ⟨old _ _ (N p hp).1, (N p hp).2⟩
    rintro k s' ⟨h', tk, i, ys, m', news', rfl, hi, rfl, hyl, hst', F', hn', N', off', j'⟩
    have off3 := off'.mem
    have N'' : News h₀ L h' news' := fun p hp => N' p (List.mem_cons_of_mem _ hp)
    by_cases hlt : i < n
    · refine W.item i _ _ _ hlt hst' fun v h₂ tk₂ hv st₂ hk₂ => ?_
      have up₂ : ∀ c o, c ≠ I → h'.get? c = some o → h₂.get? c = some o := fun c o hc e => hk₂ c o (by simpa using hc) e
      have N₂ : News h₀ L h₂ news' := fun p hp => ⟨up₂ _ _ (off3 p hp).1 (N'' p hp).1, (N'' p hp).2⟩
      refine hasg i v H.objs.size m' news' ys _ _ _ hv st₂ j' N₂ (hn'.at' fun o e => up₂ _ o (Ne.symm hCI) e) (Ne.symm hCI) fun h₃ tk₃ m₂ ha hn₃ hs₃ => ?_
      have up : ∀ c o, c ≠ I → c ≠ H.objs.size → h'.get? c = some o → h₃.get? c = some o := fun c o h1 h2 e => hs₃ c o h2 (up₂ c o h1 e)
      have st₃ : St (i + 1) h₃ := W.frame _ _ _ st₂ fun b hb o e => hs₃ b o (fun q => hCf (by have q' : b = H.objs.size := q; rw [← q']; exact hb)) e
      obtain ⟨oI, heI, kI⟩ := hIo _ _ st₃
      obtain ⟨oC, heC, hoC⟩ := ns_obj hn₃
      have F₃ : Fr h₀ L h₃ m := ⟨F'.ns.at' fun o e => up _ o hIL (Ne.symm hCL) e, fun c o e => up c o (fun q => by rw [q, hI₀] at e; cases e) (fun q => by rw [q, hC₀] at e; cases e) (F'.keep c o e), F'.above⟩
      have N₃ : News h₀ L h₃ ((I, oI) :: (H.objs.size, oC) :: (s₂.heap.objs.size, lst ys) :: news') := fun q hq => by
        rcases List.mem_cons.mp hq with rfl | hq
        · exact ⟨heI, Ne.symm hIL, hI₀⟩
        · rcases List.mem_cons.mp hq with rfl | hq
          · exact ⟨heC, hCL, hC₀⟩
          · refine ⟨up _ _ ?_ ?_ (N' q hq).1, (N' q hq).2⟩
            · rcases List.mem_cons.mp hq with rfl | hq
              · exact Ne.symm hDI
              · exact (off3 q hq).1
            · rcases List.mem_cons.mp hq with rfl | hq
              · exact hDC
              · exact (off3 q hq).2.1
      refine wpAny_mono (step i ys news' oI H.objs.size oC s₂.heap.objs.size m₂ h₃ _ _ hlt ha j' kI hoC F₃ N₃ off' ⟨hCI, hDI, Ne.symm hDC⟩ ord) (fun y s₅ h₅ => ?_) fun _ _ e => e
      obtain ⟨h₅, tk₅, news₅, rfl, F₅, N₅, off₅, j₅⟩ := h₅
      have zI := (N₅ (I, oI) List.mem_cons_self).1
      have zC := (N₅ (H.objs.size, oC) (List.mem_cons_of_mem _ List.mem_cons_self)).1
      have zD := (N₅ (s₂.heap.objs.size, lst ys) (List.mem_cons_of_mem _ (List.mem_cons_of_mem _ List.mem_cons_self))).1
      have N₅' : News h₀ L h₅ news₅ := fun q hq => N₅ q (List.mem_cons_of_mem _ (List.mem_cons_of_mem _ (List.mem_cons_of_mem _ hq)))
      have st₅ : St (i + 1) h₅ := hSt _ _ _ _ _ _ st₃ heI zI N₅' j₅
      refine append_at (hsz := by show ys.toArray.size ≤ sizeLine; rw [List.size_toArray, hyl]; exact Nat.le_trans hi hsz) zD fun h₆ hs₆ hD₆ => ?_
      have off5 := off₅.mem
      refine ⟨n + 1 - (i + 1), by omega, h₆, tk₅, i + 1, ys ++ [y], _, news₅, rfl, hlt, rfl, by rw [List.length_append, List.length_singleton, hyl], W.frame _ _ _ st₅ fun b hb o e => hs₆.extBut b o (fun q => hDf (q ▸ hb)) e, F₅.change hs₆ hDL hD₀,
        (hoC.ns zC).sameBut hs₆ (Ne.symm hDC), fun q hq => ?_, off₅, j₅⟩
      rcases List.mem_cons.mp hq with rfl | hq
      · exact ⟨hD₆.trans (congrArg some (lst_snoc ys y)), hDL, hD₀⟩
      · exact ⟨hs₆.extBut _ _ (off5 q hq).2.2 (N₅' q hq).1, (N₅' q hq).2⟩
    · have hin : i = n := Nat.le_antisymm hi (Nat.not_lt.mp hlt)
      subst hin
      refine W.done _ _ _ hst' fun h₂ tk₂ hk₂ => ?_
      exact hRR _ _ h₂ tk₂ _ ys news' (fr_but F' hk₂ hIL hI₀) (news_but N' hk₂ fun p hp => by
        rcases List.mem_cons.mp hp with rfl | hp
        · exact Ne.symm hDI
        · exact (off3 p hp).1) off'.one (hn'.at' fun o e => hk₂ _ o (by simpa using Ne.symm hCI) e) hC₀ hD₀ hCL hDL (Ne.symm hDC) (fun p hp => (off3 p hp).2.1) j'
  exact codeAny_compStart_list (loop _ rfl) (W.self 0 _ _ _ hst₁ (loop _ rfl))

inductive SrcG (prog : Program) (w : World) (A : Around) (h₀ : Heap) (L : Addr) (m : Str → Option Value) (env : Env) (elt target : PySem.Expr) (scope : Scope) (cl : List (Str × Addr)) (Q : Value → Shared → Prop) (it : Value) (s₁ : Shared) : Prop
  | mk (I : Addr) (fp : List Addr) (n : Nat) (P : Nat → Value → Prop) (St : Nat → Heap → Prop) (KI : Obj → Prop) (Asg : Nat → (Str → Option Value) → Prop) (J : Nat → List Value → Led → Prop) (news : Led) (hit : it = .ref I) (W : Walks prog w A I fp [I] n P St) (hsz : n ≤ sizeLine) (hIo : ∀ i h, St i h → ∃ o, h.get? I = some o ∧ KI o)
    (hSt : ∀ i h h' o nw ys, St i h → h.get? I = some o → h'.get? I = some o → News h₀ L h' nw → J i ys nw → St i h')
    (hasg : ∀ i v C m' nw ys (s' : Shared) (Q : Unit → Shared → Prop) (E' : Value → Shared → Prop), P i v → St (i + 1) s'.heap → J i ys nw → News h₀ L s'.heap nw → s'.heap.Ns C m' → C ≠ I →
      (∀ h' tk m₂, Asg i m₂ → h'.Ns C m₂ → (∀ c o, c ≠ C → s'.heap.get? c = some o → h'.get? c = some o) → Q () { s' with heap := h', toks := tk }) →
      wpAny (model prog w) A (letOwnedTupleGo target (.ref I) v) (fun _ s₁ => wpAny (model prog w) A (assign target (compEnvC scope cl C env) v) Q E' s₁) E' s')
    (hst : St 0 s₁.heap) (hfp : ∀ b ∈ fp, b < s₁.heap.objs.size) (F : Fr h₀ L s₁.heap m) (N : News h₀ L s₁.heap news) (hIL : L ≠ I) (hI₀ : h₀.get? I = none) (off : ∀ p ∈ news, @LT.lt Nat _ p.1 I) (h0 : J 0 [] news)
    (step : TurnDo prog w A h₀ L m env elt scope cl s₁ news I n KI Asg J) (fin : ∀ ys nw, J n ys nw → FinE h₀ L m s₁ Q ys nw) : SrcG prog w A h₀ L m env elt target scope cl Q it s₁

theorem ListComp_G {elt iter target : PySem.Expr} {scope : Scope} {cl : List (Str × Addr)} {pos : Pos} {Q : Value → Shared → Prop} (_F : Fr h₀ L s.heap m)
    (hclos : closureFor scope env = pure cl) (hcell : ∀ y ∈ scope.names, y.2 ≠ .cell) (hkind : scope.kind = .function)
    (hnames : ∀ y ∈ scope.names, y.2 = .local → scope.names.lookup y.1 = some .local)
    (h : wpAny (model prog w) A (eval iter env) (fun xv s₁ => wpAny (model prog w) A (pyIter xv) (SrcG prog w A h₀ L m env elt target scope cl Q) E s₁) E s)
    (hs : ∀ x, foldedSetIterable iter env x = pure x := by intro _; rfl) :
    wpAny (model prog w) A (eval (.ListComp elt [⟨target, iter, [], 0⟩] scope pos) env) Q E s := by
  rw [eval_ListComp]
  refine wpAny_comprehension_free (use := none) rfl hs hclos hkind hnames (wpAny_mono h (fun xv s₁ h₁ => ?_) fun _ _ e => e)
  refine wpAny_mono h₁ (fun it s₂ h₂ => ?_) fun _ _ e => e
  obtain ⟨I, fp, n, P, St, KI, Asg, J, news, rfl, W, hsz, hIo, hSt, hasg, hst, hfp, F, N, hIL, hI₀, off, h0, step, fin⟩ := h₂
  refine comp_block W hsz hIo hSt hasg hcell hkind hst hfp F N hIL hI₀ off h0 step ?_
  intro D C h' tk m' ys news' F' N' o1 hn hC₀ hD₀ hCL hDL hCD offC j
  refine ⟨m', hn, fun h'' hs'' => fin _ _ j D h'' tk (F'.change hs'' hCL hC₀) (fun p hp => ?_) o1⟩
  refine ⟨hs''.extBut _ _ ?_ (N' p hp).1, (N' p hp).2⟩
  rcases List.mem_cons.mp hp with rfl | hp
  · exact Ne.symm hCD
  · exact offC p hp

theorem src_seq {elt target : PySem.Expr} {scope : Scope} {cl : List (Str × Addr)} {Q : Value → Shared → Prop} {ax : Addr} {n n' : Nat} {P : Nat → Value → Prop} {It : Nat → Heap → Prop} {Sq : Heap → Prop} {KI : Obj → Prop} {Asg : Nat → (Str → Option Value) → Prop} {o' : Obj} {news : Led} (J : Nat → List Value → Led → Prop)
   (F : Fr h₀ L s.heap m) (N : News h₀ L s.heap news) (W : Walks prog w A s.heap.objs.size [s.heap.objs.size, ax] [s.heap.objs.size] n' P (fun i h => It i h ∧ Sq h)) (hn : n' = n) (hsz : n ≤ sizeLine) (hlt : ax < s.heap.objs.size) (h1 : ∀ i h, It i h → ∃ o, h.get? s.heap.objs.size = some o ∧ KI o)
   (h2 : ∀ i h h' o, It i h → h.get? s.heap.objs.size = some o → h'.get? s.heap.objs.size = some o → It i h') (h3 : ∀ i ys nw h', J i ys nw → News h₀ L h' nw → Sq h') (h4 : It 0 (s.heap.push o')) (h5 : Sq (s.heap.push o'))
   (hasg : ∀ i v C m' nw ys (s' : Shared) (Q : Unit → Shared → Prop) (E' : Value → Shared → Prop), P i v → It (i + 1) s'.heap → J i ys nw → News h₀ L s'.heap nw → s'.heap.Ns C m' →
      (∀ h' tk m₂, Asg i m₂ → h'.Ns C m₂ → (∀ c o, c ≠ C → s'.heap.get? c = some o → h'.get? c = some o) → Q () { s' with heap := h', toks := tk }) →
      wpAny (model prog w) A (letOwnedTupleGo target (.ref s.heap.objs.size) v) (fun _ s₁ => wpAny (model prog w) A (assign target (compEnvC scope cl C env) v) Q E' s₁) E' s')
   (h0 : J 0 [] news) (step : ∀ g I, (∀ p ∈ news, @LT.lt Nat _ p.1 I) → TurnDo prog w A h₀ L m env elt scope cl { s with heap := g } news I n KI Asg J) (fin : ∀ g ys nw, J n ys nw → FinE h₀ L m { s with heap := g } Q ys nw) :
   SrcG prog w A h₀ L m env elt target scope cl Q (.ref s.heap.objs.size) { s with heap := s.heap.push o' } :=
  have up : ∀ b o, s.heap.get? b = some o → (s.heap.push o').get? b = some o := fun b o e => Heap.get?_push_of_some _ e
  have off : ∀ p ∈ news, @LT.lt Nat _ p.1 s.heap.objs.size := fun p hp => Heap.lt_size (N p hp).1
  ⟨_, _, n, P, _, KI, Asg, J, news, rfl, hn ▸ W, hsz, fun i h st => h1 i h st.1, fun i h h' o nw ys st e e' N' j => ⟨h2 i h h' o st.1 e e', h3 i ys nw h' j N'⟩, fun i v C m' nw ys s' Q E' hv st j N' hn _ hq => hasg i v C m' nw ys s' Q E' hv st.1 j N' hn hq, ⟨h4, h5⟩, fun b hb => by
    show b < (s.heap.push _).objs.size
    rw [Heap.size_push]
    rcases List.mem_cons.mp hb with rfl | hb
    · exact Nat.lt_succ_self _
    · rw [List.mem_singleton.mp hb]; exact Nat.lt_succ_of_lt hlt, F.keeps up, N.grown up, Nat.ne_of_lt F.ns.lt, next_is_new F, off, h0, step _ _ off, fin _⟩
theorem srcT {elt : PySem.Expr} {x : Str} {px : Pos} {scope : Scope} {cl : List (Str × Addr)} {Q : Value → Shared → Prop} {ax : Addr} {its : Array Value} {k : Nat} {news : Led} (J : Nat → List Value → Led → Prop)
   (hh : A.handled = none) (F : Fr h₀ L s.heap m) (N : News h₀ L s.heap news) (hm : (ax, tupO its k) ∈ news) (hsz : its.size ≤ sizeLine) (hkind : scope.kind = .function) (hx : scope.names.lookup x = some .local)
   (hJ : ∀ i ys nw, J i ys nw → (ax, tupO its k) ∈ nw) (h0 : J 0 [] news)
   (step : ∀ g I, (∀ p ∈ news, @LT.lt Nat _ p.1 I) → TurnDo prog w A h₀ L m env elt scope cl { s with heap := g } news I its.size (fun o => o.cls = .type "tuple_iterator") (fun i m₂ => ∃ v, its[i]? = some v ∧ m₂ x = some v) J)
   (fin : ∀ g ys nw, J its.size ys nw → FinE h₀ L m { s with heap := g } Q ys nw) :
   wpAny (model prog w) A (pyIter (.ref ax)) (SrcG prog w A h₀ L m env elt (.Name x px) scope cl Q) E s :=
  have ht : s.heap.IsTuple ax its := ⟨_, (N _ hm).1, rfl, k, rfl⟩
  have hlt : ax < s.heap.objs.size := Heap.lt_size (N _ hm).1
  wpAny_pyIter_tuple ht (src_seq J F N (Walks.tuple hh s.heap.objs.size ax (Nat.ne_of_lt hlt) its) rfl hsz hlt (fun i h st => st.imp fun o q => ⟨q.1, q.2.1⟩) (fun i h h' o st e e' => by
      obtain ⟨o', q, r⟩ := st
      obtain rfl := Option.some.inj (q.symm.trans e)
      exact ⟨o', e', r⟩) (fun i ys nw h' j N' => ⟨_, (N' _ (hJ i ys nw j)).1, rfl, k, rfl⟩) ⟨_, Heap.get?_push_size _ rfl, rfl, rfl⟩ (ht.at fun o e => Heap.get?_push_of_some _ e)
    (fun i v C m' nw ys s' Q E' hv st j N' hn hq => letGo_tupleiter st (wpAny_assign_Name (wpAny_storeName_local (lookup_relabel_local hx) hn (fun h₂ hn₂ hs₂ => hq h₂ _ _ ⟨v, hv, if_pos rfl⟩ hn₂ fun c o hc e => hs₂.extBut c o hc e) (by simp [compEnvC, relabel, hkind])))) h0 step fin)

def PairsAt (ax : Addr) (o : Obj) (prs : List (Addr × Value × Value)) (nw : Led) : Prop := (ax, o) ∈ nw ∧ ∀ p ∈ prs, ∃ k', (p.1, tupO #[p.2.1, p.2.2] k') ∈ nw
abbrev prsOf (prs : List (Addr × Value × Value)) : Array Value := (prs.map fun p => Value.ref p.1).toArray
theorem prs_size (prs : List (Addr × Value × Value)) : (prsOf prs).size = prs.length := by simp
theorem pair_asg {a b : Str} {pa pb tp : Pos} {kk i : Nat} {scope : Scope} {cl : List (Str × Addr)} {ax C : Addr} {o : Obj} {prs : List (Addr × Value × Value)} {v : Value} {nw : Led} {m' : Str → Option Value} {s' : Shared} {Q : Unit → Shared → Prop} {E' : Value → Shared → Prop}
   (hh : A.handled = none) (hkind : scope.kind = .function) (hxa : scope.names.lookup a = some .local) (hxb : scope.names.lookup b = some .local) (hab : ¬ a = b) (hv : (prsOf prs)[i]? = some v) (hJ : PairsAt ax o prs nw) (N' : News h₀ L s'.heap nw) (hn : s'.heap.Ns C m')
   (hq : ∀ h' tk m₂, (∃ p, prs[i]? = some p ∧ m₂ a = some p.2.1 ∧ m₂ b = some p.2.2) → h'.Ns C m₂ → (∀ c o, c ≠ C → s'.heap.get? c = some o → h'.get? c = some o) → Q () { s' with heap := h', toks := tk }) :
   wpAny (model prog w) A (assign (.Tuple [.Name a pa, .Name b pb] kk tp) (compEnvC scope cl C env) v) Q E' s' := by
  rw [List.getElem?_toArray, List.getElem?_map] at hv
  obtain ⟨p, hp, rfl⟩ := Option.map_eq_some_iff.mp hv
  obtain ⟨k', hk'⟩ := hJ.2 p (List.mem_of_getElem? hp)
  exact kcp_assign (env := compEnvC scope cl C env) hh (x := p.2.1) (y := p.2.2) ⟨_, (N' _ hk').1, rfl, k', rfl⟩ (lookup_relabel_local hxa) (lookup_relabel_local hxb) (by simp [compEnvC, relabel, hkind]) hn fun h₃ tk₃ hn₃ hs₃ => hq h₃ tk₃ _ ⟨p, hp, by rw [if_neg hab, if_pos rfl], if_pos rfl⟩ hn₃ hs₃
theorem srcTP {elt : PySem.Expr} {a b : Str} {pa pb tp : Pos} {kk : Nat} {scope : Scope} {cl : List (Str × Addr)} {Q : Value → Shared → Prop} {ax : Addr} {prs : List (Addr × Value × Value)} {k : Nat} {news : Led} (J : Nat → List Value → Led → Prop)
   (hh : A.handled = none) (F : Fr h₀ L s.heap m) (N : News h₀ L s.heap news) (hm : PairsAt ax (tupO (prsOf prs) k) prs news) (hsz : prs.length ≤ sizeLine) (hkind : scope.kind = .function) (hxa : scope.names.lookup a = some .local) (hxb : scope.names.lookup b = some .local) (hab : ¬ a = b)
   (hJ : ∀ i ys nw, J i ys nw → PairsAt ax (tupO (prsOf prs) k) prs nw) (h0 : J 0 [] news)
   (step : ∀ g I, (∀ p ∈ news, @LT.lt Nat _ p.1 I) → TurnDo prog w A h₀ L m env elt scope cl { s with heap := g } news I prs.length (fun o => o.cls = .type "tuple_iterator") (fun i m₂ => ∃ p, prs[i]? = some p ∧ m₂ a = some p.2.1 ∧ m₂ b = some p.2.2) J)
   (fin : ∀ g ys nw, J prs.length ys nw → FinE h₀ L m { s with heap := g } Q ys nw) :
   wpAny (model prog w) A (pyIter (.ref ax)) (SrcG prog w A h₀ L m env elt (.Tuple [.Name a pa, .Name b pb] kk tp) scope cl Q) E s :=
  have ht : s.heap.IsTuple ax (prsOf prs) := ⟨_, (N _ hm.1).1, rfl, k, rfl⟩
  have hlt : ax < s.heap.objs.size := Heap.lt_size (N _ hm.1).1
  wpAny_pyIter_tuple ht (src_seq J F N (Walks.tuple hh s.heap.objs.size ax (Nat.ne_of_lt hlt) (prsOf prs)) (prs_size prs) hsz hlt (fun i h st => st.imp fun o q => ⟨q.1, q.2.1⟩) (fun i h h' o st e e' => by
      obtain ⟨o', q, r⟩ := st
      obtain rfl := Option.some.inj (q.symm.trans e)
      exact ⟨o', e', r⟩) (fun i ys nw h' j N' => ⟨_, (N' _ (hJ i ys nw j).1).1, rfl, k, rfl⟩) ⟨_, Heap.get?_push_size _ rfl, rfl, rfl⟩ (ht.at fun o e => Heap.get?_push_of_some _ e)
    (fun i v C m' nw ys s' Q E' hv st j N' hn hq => letGo_tupleiter st (pair_asg hh hkind hxa hxb hab hv (hJ i ys nw j) N' hn hq)) h0 step fin)
theorem srcLP {elt : PySem.Expr} {a b : Str} {pa pb tp : Pos} {kk : Nat} {scope : Scope} {cl : List (Str × Addr)} {Q : Value → Shared → Prop} {ax : Addr} {prs : List (Addr × Value × Value)} {k : Nat} {news : Led} (J : Nat → List Value → Led → Prop)
   (hh : A.handled = none) (F : Fr h₀ L s.heap m) (N : News h₀ L s.heap news) (hm : PairsAt ax (listOf (prsOf prs) k) prs news) (hsz : prs.length ≤ sizeLine) (hkind : scope.kind = .function) (hxa : scope.names.lookup a = some .local) (hxb : scope.names.lookup b = some .local) (hab : ¬ a = b)
   (hJ : ∀ i ys nw, J i ys nw → PairsAt ax (listOf (prsOf prs) k) prs nw) (h0 : J 0 [] news)
   (step : ∀ g I, (∀ p ∈ news, @LT.lt Nat _ p.1 I) → TurnDo prog w A h₀ L m env elt scope cl { s with heap := g } news I prs.length (fun o => o.cls = .type "list_iterator") (fun i m₂ => ∃ p, prs[i]? = some p ∧ m₂ a = some p.2.1 ∧ m₂ b = some p.2.2) J)
   (fin : ∀ g ys nw, J prs.length ys nw → FinE h₀ L m { s with heap := g } Q ys nw) :
   wpAny (model prog w) A (pyIter (.ref ax)) (SrcG prog w A h₀ L m env elt (.Tuple [.Name a pa, .Name b pb] kk tp) scope cl Q) E s :=
  have ht : s.heap.IsList ax (prsOf prs) := ⟨_, (N _ hm.1).1, rfl, k, rfl⟩
  have hlt : ax < s.heap.objs.size := Heap.lt_size (N _ hm.1).1
  wpAny_pyIter_list ht (src_seq J F N (Walks.list hh s.heap.objs.size ax (Nat.ne_of_lt hlt) (prsOf prs)) (prs_size prs) hsz hlt (fun i h st => st.imp fun o q => ⟨q.1, q.2.1⟩) (fun i h h' o st e e' => by
      obtain ⟨o', q, r⟩ := st
      obtain rfl := Option.some.inj (q.symm.trans e)
      exact ⟨o', e', r⟩) (fun i ys nw h' j N' => ⟨_, (N' _ (hJ i ys nw j).1).1, rfl, k, rfl⟩) ⟨_, Heap.get?_push_size _ rfl, rfl, rfl⟩ (ht.at fun o e => Heap.get?_push_of_some _ e)
    (fun i v C m' nw ys s' Q E' hv st j N' hn hq => letGo_listiter st (pair_asg hh hkind hxa hxb hab hv (hJ i ys nw j) N' hn hq)) h0 step fin)

theorem srcR {elt : PySem.Expr} {x : Str} {px : Pos} {scope : Scope} {cl : List (Str × Addr)} {Q : Value → Shared → Prop} {r : Addr} {a b : Int} {t u v : Tok} {n : Nat} {news : Led} (J : Nat → List Value → Led → Prop)
   (hh : A.handled = none) (F : Fr h₀ L s.heap m) (N : News h₀ L s.heap news) (hr : IsRange s.heap r a b 1 t u v) (hsm : Builtin.Range.small a b 1 = true) (hn : Builtin.Range.rangeSize a b 1 = ((n : Nat) : Int)) (hsz : n ≤ sizeLine)
   (hkind : scope.kind = .function) (hx : scope.names.lookup x = some .local) (h0 : J 0 [] news)
   (step : ∀ g I, (∀ p ∈ news, @LT.lt Nat _ p.1 I) → TurnDo prog w A h₀ L m env elt scope cl { s with heap := g } news I n (fun o => o.cls = .type "range_iterator") (fun i m₂ => ∃ t, m₂ x = some (.int (a + (i : Int)) t)) J)
   (fin : ∀ g ys nw, J n ys nw → FinE h₀ L m { s with heap := g } Q ys nw) :
   wpAny (model prog w) A (pyIter (.ref r)) (SrcG prog w A h₀ L m env elt (.Name x px) scope cl Q) E s := by
  refine wpAny_pyIter_range hr hsm ?_
  have up : ∀ (o' : Obj) b o, s.heap.get? b = some o → (s.heap.push o').get? b = some o := fun o' b o e => Heap.get?_push_of_some _ e
  refine ⟨s.heap.objs.size, _, n, _, _, fun o => o.cls = .type "range_iterator", fun i m₂ => ∃ t, m₂ x = some (.int (a + (i : Int)) t), J, news, rfl, range_walks hh a n, hsz, fun i h st => ⟨_, st, rfl⟩, fun i h h' o nw ys st e e' N' j => ?_, fun i v C m' nw ys s' Q E' hv st j N' hn hCI hq => ?_,
    by show IsRangeIter _ _ _ _ _; rw [hn]; simpa using Heap.get?_push_size _ rfl, fun b hb => ?_, F.keeps (up _), N.grown (up _), Nat.ne_of_lt F.ns.lt, next_is_new F, fun p hp => Heap.lt_size (N p hp).1, h0, step _ _ fun p hp => Heap.lt_size (N p hp).1, fin _⟩
  · have st' : h.get? s.heap.objs.size = some _ := st
    show h'.get? _ = some _
    rw [e', ← e]; exact st'
  · obtain ⟨t', rfl⟩ := hv
    have hlg : letOwnedTupleGo (.Name x px) (.ref s.heap.objs.size) (.int (a + (i : Int)) t') = pure () := rfl
    rw [hlg]
    refine wpAny_pure ?_
    refine wpAny_assign_Name (wpAny_storeName_local (lookup_relabel_local hx) hn (fun h₂ hn₂ hs₂ => ?_) (by simp [compEnvC, relabel, hkind]))
    exact hq h₂ _ _ ⟨t', by simp⟩ hn₂ fun c o hc e => hs₂.extBut c o hc e
  · rw [List.mem_singleton.mp hb]
    show s.heap.objs.size < (s.heap.push _).objs.size
    rw [Heap.size_push]; exact Nat.lt_succ_self _
def less3 (I C D : Addr) (T : Led) : Led := T.filter fun p => decide ((@Ne Nat p.1 I) ∧ (@Ne Nat p.1 C) ∧ (@Ne Nat p.1 D))
theorem mem_less3 {I C D : Addr} {T : Led} {p : Addr × Obj} : p ∈ less3 I C D T ↔ p ∈ T ∧ (@Ne Nat p.1 I) ∧ (@Ne Nat p.1 C) ∧ (@Ne Nat p.1 D) := by
  unfold less3; rw [List.mem_filter]; simp
theorem off_less3 {I C D : Addr} {T : Led} : Off3 I C D (less3 I C D T) := Off3.of fun _ hp => (mem_less3.mp hp).2
theorem turnEndO {I C D : Addr} {s₁ : Shared} {oI oC oD : Obj} {J : Value → Led → Prop} {y : Value} {h' : Heap} {tk : Nat} {all : Led}
    (F : Fr h₀ L h' m) (N : News h₀ L h' all) (mI : (I, oI) ∈ all) (mC : (C, oC) ∈ all) (mD : (D, oD) ∈ all) (r : J y (less3 I C D all)) :
    TurnEnd h₀ L m s₁ I oI C oC D oD J y { s₁ with heap := h', toks := tk } :=
  ⟨h', tk, less3 I C D all, rfl, F, fun p hp => N p (by
    simp only [List.mem_cons] at hp
    rcases hp with rfl | rfl | rfl | h
    · exact mI
    · exact mC
    · exact mD
    · exact (mem_less3.mp h).1), off_less3, r⟩
end
theorem less3_of {h₀ h : Heap} {L I C D : Addr} {T : Led} {oI oC oD : Obj} {m₂ : Str → Option Value} {nI nD : String} (N : News h₀ L h T) (hI : (I, oI) ∈ T) (hC : (C, oC) ∈ T) (hD : (D, oD) ∈ T) (cI : oI.cls = .type nI) (cD : oD.cls = .type nD) (nC : LCg.NsObj oC m₂)
    (zI : Value.type nI ≠ .type "tuple") (zD : Value.type nD ≠ .type "tuple") {W : Nat} (wI : @LT.lt Nat _ W I) (wC : @LT.lt Nat _ W C) (wD : @LT.lt Nat _ W D) {p : Addr × Obj} (hp : p ∈ T) (q : IsT p.2 ∨ @LE.le Nat _ p.1 W) : p ∈ less3 I C D T := by
  obtain ⟨a, o⟩ := p
  have same : ∀ {o o' : Obj} {a : Addr}, (a, o) ∈ T → (a, o') ∈ T → o = o' := fun p q => Option.some.inj ((N.get p).symm.trans (N.get q))
  refine mem_less3.mpr ⟨hp, ?_⟩
  rcases q with q | q
  · refine ⟨fun e => ?_, fun e => ?_, fun e => ?_⟩
    · have e' : a = I := e
      subst e'
      have := same hp hI
      subst this
      exact zI (cI.symm.trans q.1)
    · have e' : a = C := e
      subst e'
      have := same hp hC
      subst this
      obtain ⟨_, vs, n, hd⟩ := q
      obtain ⟨es, ep, hd', _⟩ := nC
      rw [show (a, o).2 = o from rfl] at hd
      rw [hd] at hd'
      cases hd'
    · have e' : a = D := e
      subst e'
      have := same hp hD
      subst this
      exact zD (cD.symm.trans q.1)
  · have q' : @LE.le Nat _ a W := q
    exact ⟨Nat.ne_of_lt (Nat.lt_of_le_of_lt q' wI), Nat.ne_of_lt (Nat.lt_of_le_of_lt q' wC), Nat.ne_of_lt (Nat.lt_of_le_of_lt q' wD)⟩

theorem turnEnd1 {h₀ : Heap} {L I C D : Addr} {m : Str → Option Value} {s₁ : Shared} {oI oC oD : Obj} {J : Value → Led → Prop} {y : Value} {h' : Heap} {tk : Nat} {e : Addr × Obj} {news : Led}
    (F : Fr h₀ L h' m) (N : News h₀ L h' (e :: (I, oI) :: (C, oC) :: (D, oD) :: news)) (off : LCg.Off3 I C D news) (n1 : @Ne Nat e.1 I) (n2 : @Ne Nat e.1 C) (n3 : @Ne Nat e.1 D) (r : J y (e :: news)) :
    TurnEnd h₀ L m s₁ I oI C oC D oD J y { s₁ with heap := h', toks := tk } :=
  ⟨h', tk, e :: news, rfl, F, fun p hp => N p (by
    simp only [List.mem_cons] at hp ⊢
    rcases hp with h | h | h | h | h
    · exact .inr (.inl h)
    · exact .inr (.inr (.inl h))
    · exact .inr (.inr (.inr (.inl h)))
    · exact .inl h
    · exact .inr (.inr (.inr (.inr h)))), ⟨⟨n1, n2, n3⟩, off⟩, r⟩
def BvAll (nw : Led) : List Addr → List (Int × Int) → Prop
  | [], [] => True
  | T :: Ts, p :: ps => BvIn nw T p.1 p.2 ∧ BvAll nw Ts ps
  | _, _ => False
theorem BvIn.mono {nw nw' : Led} {T : Addr} {x n : Int} (h : BvIn nw T x n) (q : Ext nw nw') : BvIn nw' T x n := let ⟨a, b, c, h⟩ := h; ⟨a, b, c, q _ h⟩
theorem BvAll.mono {nw nw' : Led} (q : Ext nw nw') : ∀ {Ts : List Addr} {ps : List (Int × Int)}, BvAll nw Ts ps → BvAll nw' Ts ps
  | [], [], _ => trivial
  | [], _ :: _, h => h.elim
  | _ :: _, [], h => h.elim
  | _ :: _, _ :: _, h => ⟨h.1.mono q, BvAll.mono q h.2⟩
theorem BvAll.snoc {nw : Led} {T : Addr} {p : Int × Int} (h : BvIn nw T p.1 p.2) : ∀ {Ts : List Addr} {ps : List (Int × Int)}, BvAll nw Ts ps → BvAll nw (Ts ++ [T]) (ps ++ [p])
  | [], [], _ => ⟨h, trivial⟩
  | [], _ :: _, h => h.elim
  | _ :: _, [], h => h.elim
  | _ :: _, _ :: _, q => ⟨q.1, BvAll.snoc h q.2⟩
theorem BvAll.len {nw : Led} : ∀ {Ts : List Addr} {ps : List (Int × Int)}, BvAll nw Ts ps → Ts.length = ps.length
  | [], [], _ => rfl
  | [], _ :: _, h => h.elim
  | _ :: _, [], h => h.elim
  | _ :: _, _ :: _, h => congrArg (· + 1) (BvAll.len h.2)
def Works (w : World) (b : BA) (ts : List Term) (ws : List Int) (c : Nat) (t : Int) (ps : List (Int × Int)) (v wd : Int) : Prop :=
  ∀ (news : Led) (tk : Tok) (V : Addr) (Ts : List Addr), FB w b ts ws c news → (V, tupO (Ts.map Value.ref).toArray 0) ∈ news → BvAll news Ts ps → Spec w 749 8 news [.ref b.M.B, .int t tk, .ref V] (Told3 news v wd)
inductive PrsIn (nw : Led) (Nn : Addr) (ps : List (Int × Int)) : Prop
  | mk (prs : List (Addr × Value × Value)) (e : Nat) (h : PairsAt Nn (listOf (prsOf prs) e) prs nw) (hl : prs.length = ps.length) (hv : ∀ (i : Nat) (q : Addr × Value × Value) (p : Int × Int), prs[i]? = some q → ps[i]? = some p → isI p.1 q.2.1 ∧ isI p.2 q.2.2) : PrsIn nw Nn ps
section
variable {w : World} {S : Scope} {z : Nat} {c : Fx w S z} {l : FL} {news : Led} {Nn : Addr} {ps : List (Int × Int)} {y : Str} {p1 p2 p3 p4 p5 p6 p7 p8 p9 : Pos} {k1 k2 k3 : Nat} {scope : Scope} {cl : List (Str × Addr)}
theorem eg_bvs (hN : PrsIn news Nn ps) (hs : ps.length ≤ 1000) (hy : Ei c c.env l (Ext news) (.Name y p1) (isR Nn) (Ext news)) (hkd : scope.kind = .function) (hclos : closureFor scope c.env = pure cl) (hcell : ∀ y ∈ scope.names, y.2 ≠ .cell) (hnames : ∀ y ∈ scope.names, y.2 = .local → scope.names.lookup y.1 = some .local)
    (ha : scope.names.lookup (Str.ofString "number") = some .local) (hb : scope.names.lookup (Str.ofString "width") = some .local) (ka : ∀ C, (compEnvC scope cl C c.env).kindOf (Str.ofString "number") = some .local) (kb : ∀ C, (compEnvC scope cl C c.env).kindOf (Str.ofString "width") = some .local) :
    Eg c c.env l (Ext news) (.ListComp (.Tuple [.Constant (.str (Str.ofString "bv")) k1 p2, .Name (Str.ofString "number") p3, .Name (Str.ofString "width") p4] k2 p5) [⟨.Tuple [.Name (Str.ofString "number") p6, .Name (Str.ofString "width") p7] k3 p8, .Name y p1, [], 0⟩] scope p9) fun u nw => ∃ D Ts e, u = .ref D ∧ (D, listOf (List.map Value.ref Ts).toArray e) ∈ nw ∧ BvAll nw Ts ps ∧ Ext news nw := by
  with_unfolding_all
    exact fun m s nw Q E fo F N i ret => by
      obtain ⟨prs, e, hP, hl, hv⟩ := hN
      refine ListComp_G F hclos hcell hkd hnames (hy m s nw _ E fo F N i fun u n0 h0 tk0 F0 N0 j0 => ?_) (fun _ => rfl)
      obtain ⟨hu, i0⟩ := j0
      obtain rfl : u = .ref Nn := hu
      have up : ∀ nw, Ext news nw → PairsAt Nn (listOf (prsOf prs) e) prs nw := fun nw q => ⟨q _ hP.1, fun p hp => (hP.2 p hp).imp fun k hk => q _ hk⟩
      refine srcLP (fun i ys nw => Ext news nw ∧ ∃ Ts : List Addr, ys = Ts.map Value.ref ∧ BvAll nw Ts (ps.take i)) rfl F0 N0 (up _ i0) (by rw [hl]; exact Nat.le_trans hs (by decide)) hkd ha hb (by decide) (fun i ys nw q => up nw q.1) ⟨i0, [], rfl, by rw [List.take_zero]; exact trivial⟩ ?step ?fin
      case step =>
        rintro g I0 lt i ys nw oI C oC D m₂ h tk E' hi ⟨p, hp, ma, mb⟩ ⟨ex, Ts, rfl, hT⟩ kI hoC F8 N8 off8 ne8 ord8
        obtain ⟨q, hq⟩ : ∃ q, ps[i]? = some q := ⟨_, List.getElem?_eq_getElem (hl ▸ hi)⟩
        obtain ⟨⟨t1, e1⟩, ⟨t2, e2⟩⟩ := hv i p q hp hq
        rw [e1] at ma
        rw [e2] at mb
        have mC : (C, oC) ∈ (I0, oI) :: (C, oC) :: (D, LCg.lst (Ts.map Value.ref)) :: nw := .tail _ (.head _)
        refine Tuple_ (args_cons (Constant_str (args_cons (LCgL.ld_own N8 mC hoC ma (args_cons (LCgL.ld_own N8 mC hoC mb (args_nil (kup_newTuple F8 N8 (fun T h9 F9 N9 l9 => ?_) (by show 3 ≤ sizeLine; decide))) hkd (kb C) (by decide))) hkd (ka C) (by decide)))))
        refine turnEnd1 F9 N9 off8 (Nat.ne_of_gt (l9 _ (.head _))) (Nat.ne_of_gt (l9 _ (.tail _ (.head _)))) (Nat.ne_of_gt (l9 _ (.tail _ (.tail _ (.head _))))) ⟨fun p hp => .tail _ (ex p hp), Ts ++ [T], by rw [List.map_append]; rfl, ?_⟩
        rw [List.take_add_one, hq]
        exact BvAll.snoc (p := q) (BvIn.mk _ t1 t2 (.head _)) (hT.mono fun p hp => .tail _ hp)
      case fin =>
        rintro g ys nw ⟨ex, Ts, rfl, hT⟩ D h tk F9 N9 of1
        rw [hl, List.take_length] at hT
        exact ret _ _ h tk F9 N9 ⟨D, Ts, _, rfl, .head _, hT.mono fun p hp => .tail _ hp, fun p hp => .tail _ (ex p hp)⟩
theorem eg_tupL {V : Addr → List Value → Nat → Led → Prop} {I : Led → Prop} {e : PySem.Expr} (hx : c.env.kindOf (Str.ofString "tuple") = some .globalImplicit) (hu : unstarred e = true) (he : Eg c c.env l I e fun u nw => ∃ D vs k, u = .ref D ∧ (D, listOf (List.toArray vs) k) ∈ nw ∧ V D vs k nw) (hz : ∀ D vs k nw, V D vs k nw → vs.length ≤ 16384) :
    Eg c c.env l I (.Call (.Name (Str.ofString "tuple") p1) [e] [] p2) fun u nw => ∃ T D vs k n0, u = .ref T ∧ nw = (T, tupO (List.toArray vs) 0) :: n0 ∧ V D vs k n0 := by
  with_unfolding_all
    exact fun m s news Q E fo F N i ret =>
      Call_ (ei_blt (v := .type "tuple") hx (by decide) (by decide) (by kernel_rfl) (by kernel_rfl) m s news _ E fo F N i fun u n0 h0 tk0 F0 N0 j0 => by
        obtain ⟨hu0, i0⟩ := j0
        subst hu0
        refine PyProof.Rows.callWith_type1 (args_cons (he m _ n0 _ E fo F0 N0 i0 fun v n1 h1 tk1 F1 N1 ⟨D, vs, k, e1, hm, hV⟩ => args_nil ?_) (star_of hu [])) (star_of hu []) rfl
        subst e1
        exact kde_tupleOf F1 N1 (News.isList N1 hm) (by rw [List.size_toArray]; exact hz _ _ _ _ hV) rfl fun T h' F' N' _ => ret _ _ h' _ F' N' ⟨T, D, vs, k, n1, rfl, rfl, hV⟩)
theorem sr_drop {I : Led → Prop} {ss : List Stmt} {V : Value → Prop} (h : Sr c I l ss fun u nw => V u ∧ Ext news nw) : Sr c I l ss fun u nw => nw = news ∧ V u := by with_unfolding_all exact fun m s nw Q fo F N i ret => h m s nw Q fo F N i fun f n1 h' m' tk' F' N' ⟨u, e, hu, x⟩ => ret f news h' m' tk' F' (fun p hp => N' p (x p hp)) ⟨u, e, rfl, hu⟩
theorem ei_isT {a : Addr} {I : Led → Prop} {e : PySem.Expr} (hf : Ei c c.env l I (.Name y p1) (fun u => u = .builtin "isinstance") I) (hu : unstarred e = true) (he : Ei c c.env l I e (isR a) I) (ht : c.env.kindOf (Str.ofString "tuple") = some .globalImplicit) (hm : ∀ nw, I nw → ∃ vs k, (a, tupO vs k) ∈ nw) : Ei c c.env l I (.Call (.Name y p1) [e, .Name (Str.ofString "tuple") p2] [] p3) (isB true) I :=
  ei_builtin hf (Bool.and_eq_true_iff.mpr ⟨hu, rfl⟩) (eil_cons hu he (eil_cons rfl (ei_blt (v := .type "tuple") ht (by decide) (by decide) (by kernel_rfl) (by kernel_rfl)) eil_nil)) (fun vs s m news Q E hA F N i ret => by
    obtain ⟨u1, u2, e0, e1, e2⟩ := alls2 hA
    obtain rfl : u1 = .ref a := e1
    subst e0 e2
    obtain ⟨vs, k, hm⟩ := hm _ i
    exact IsiPair.tuple_tuple (N.get hm) rfl (ret _ s.heap _ F N rfl)) fun h => Call_ h
end
section
variable {b : BA} {ts : List Term} {ws : List Int} {c : Nat} {news : Led} {t so v wd : Int} {tk : Tok} {o : Str} {d : Sum Int (Int × Int)} {Nn : Addr} {ps : List (Int × Int)}
theorem spec_told (w : World) (hb : FB w b ts ws c news) (h0 : 0 ≤ t) (hx : ts[t.toNat]? = some (o, so, d)) (hs0 : 0 ≤ so) (hw : ws[so.toNat]? = some wd) (h1 : 1 ≤ wd) (h2 : wd ≤ 150) (hN : PrsIn news Nn ps) (hs : ps.length ≤ 1000) (hwk : Works w b ts ws c t ps v wd) (hv0 : 0 ≤ v) (hv1 : v < 2 ^ wd.toNat) :
   Spec w 768 12 news [.ref b.M.B, .int t tk, .ref Nn] (fun r news' => news' = news ∧ ∃ t', r = .int v t') := by
  have hW : ∀ nw, Ext news nw → HasW w b t (o, so, d) wd nw := fun nw q => HasW.ext ⟨ts, ws, _, hb, ⟨h0, hx⟩, hs0, hw⟩ q
  refine spec_def (o := o768) (binds := [(Str.ofString "bank", Value.ref b.M.B), (Str.ofString "t", .int t tk), (Str.ofString "numbers", .ref Nn)]) (by kernel_rfl) rfl (by kernel_rfl) rfl (locs rfl) rfl rfl rfl (by decide) fun c hcl => sr_drop (V := isI v) (sr_pre (I := Ext news) ?_ fun nw e p hp => by rw [show nw = news from e]; exact hp)
  have hcl' := hcl
  refine sr_setX (α := Addr) (U := isR) (K := fun T nw => BvIn nw T v wd ∧ Ext news nw) rfl (by kernel_rfl) (eg_mono (eg_call (f := 749) (sz := 8) (JA := fun vs nw => ∃ tk' V n0 Ts, vs = [.ref b.M.B, .int t tk', .ref V] ∧ nw = (V, tupO (List.map Value.ref Ts).toArray 0) :: n0 ∧ BvAll n0 Ts ps ∧ Ext news n0) ei_glob (by kernel_rfl) rfl rfl
    (egl_cons rfl (ei_name (V := isR b.M.B) rfl (by kernel_rfl) (by decide)) fun u1 => egl_and fun e1 => egl_cons rfl (ei_name (V := isI t) rfl (by kernel_rfl) (by decide)) fun u2 => egl_and fun e2 => egl_cons rfl (eg_tupL (V := fun D vs k nw => ∃ Ts, vs = List.map Value.ref Ts ∧ BvAll nw Ts ps ∧ Ext news nw) (by kernel_rfl) rfl
      (eg_mono (eg_bvs (cl := []) hN hs (ei_name rfl) (by kernel_rfl) (by show closureFor _ (envX c.cn _ c.L c.a c.ccd c.cl) = _; rw [hcl']; rfl) (by decide) (by decide) rfl rfl (fun C => by kernel_rfl) fun C => by kernel_rfl) fun u nw ⟨D, Ts, e, q1, q2, q3, q4⟩ => ⟨D, _, e, q1, q2, Ts, rfl, q3, q4⟩) fun D vs k nw ⟨Ts, q1, q2, _⟩ => by rw [q1, List.length_map, q2.len]; omega)
      fun u3 => egl_nil fun nw ⟨V, D, vs0, k, n0, q1, q2, Ts, q3, q4, q5⟩ => let ⟨t2, e2⟩ := e2; ⟨t2, V, n0, Ts, by rw [q1, e1, e2], by rw [q2, q3], q4, q5⟩)
    (J := fun u nw => ∃ n1, Told3 n1 v wd u nw ∧ Ext news n1) (fun vs nw h N ⟨tk', V, n0, Ts, q1, q2, q3, q4⟩ => ?_)) fun u nw ⟨n1, ⟨T, a1, a2, a3, e, hm, x⟩, y⟩ => ⟨T, e, ⟨a1, a2, a3, hm⟩, fun p hp => x p (y p hp)⟩) fun T => ?_
  · subst q1 q2
    exact (hwk _ _ _ _ (hb.mono fun p hp => .tail _ (q4 p hp)) (.head _) (q3.mono fun p hp => .tail _ hp)).mono fun r n q => ⟨_, q, fun p hp => .tail _ (q4 p hp)⟩
  · have hT : ∀ nw, (BvIn nw T v wd ∧ Ext news nw) → ∃ vs k, (T, tupO vs k) ∈ nw := fun nw i => let ⟨_, _, _, h⟩ := i.1; ⟨_, _, h⟩
    refine sr_ifF (I1 := fun nw => BvIn nw T v wd ∧ Ext news nw) (ti_or (ti_to (ti_not (ti_val (ei_isT (ei_blt (by kernel_rfl) (by decide) (by decide) (by kernel_rfl) (by kernel_rfl)) rfl (ei_name rfl) (by kernel_rfl) hT))) rfl)
      (ti_or (ti_to (ti_neI (ei_lenT (k := 3) (ei_blt (by kernel_rfl) (by decide) (by decide) (by kernel_rfl) (by kernel_rfl)) rfl (ei_name rfl) (fun nw i => let ⟨_, _, _, h⟩ := i.1; ⟨_, _, h, rfl⟩) (by decide)) ei_int) rfl)
        (ti_or (ti_to (ti_neS (ei_titem (V := isS (Str.ofString "bv")) (ei_name rfl) (fun nw i => let ⟨t1, _, _, h⟩ := i.1; ⟨_, 0, _, h, rfl, t1, rfl⟩) (by decide) (by decide) fun t => by with_unfolding_all rfl) ei_str) (by decide))
          (ti_or (ti_to (ti_neI (ei_valW (ei_name rfl) fun nw i => i.1) (ei_width (fun nw i => hW nw i.2) (ei_name rfl) (ei_name rfl) rfl rfl rfl)) (bne_self_eq_false _)) ti_or_nil)))) ?_
    exact sr_mono (sr_ret (ei_if (V := isI v) (ti_to (ti_chain ei_int (ec_le (ei_valN (ei_name rfl) fun nw i => i.1) hv0 (ec_lt (ei_pow ei_int (ei_valW (ei_name rfl) fun nw i => i.1) (by omega) h2 (by decide)))) rfl) (decide_eq_true hv1)) (fun _ => ei_valN (ei_name rfl) fun nw i => i.1) fun q => by cases q)) fun u nw j => ⟨j.1, j.2.2⟩
end

inductive WDict (w : World) (b : BA) (W : Addr) (wd ta tb : Int) (nw : Led) : Prop
  | mk (o : Obj) (kvs : List (Str × Value)) (hm : (W, o) ∈ nw) (hd : o.IsDictOf (strKind PP w) kvs) (vb : valueAt kvs (Str.ofString "bank") = some (Value.ref b.M.B)) (vw : ∃ t, valueAt kvs (Str.ofString "width") = some (Value.int wd t)) (va : ∃ t, valueAt kvs (Str.ofString "a") = some (Value.int ta t)) (vt : ∃ t, valueAt kvs (Str.ofString "b") = some (Value.int tb t)) : WDict w b W wd ta tb nw
theorem WDict.on {w : World} {b : BA} {W : Addr} {wd ta tb : Int} {nw nw' : Led} (h : WDict w b W wd ta tb nw) (q : ∀ o, (W, o) ∈ nw → (W, o) ∈ nw') : WDict w b W wd ta tb nw' := let ⟨o, k, hm, r1, r2, r3, r4, r5⟩ := h; ⟨o, k, q _ hm, r1, r2, r3, r4, r5⟩
structure WO (w : World) (b : BA) (ts : List Term) (ws : List Int) (c : Nat) (W : Addr) (wd ta tb so : Int) (news : Led) : Prop where
  fb : FB w b ts ws c news
  above : @LT.lt Nat _ b.V W
  dict : WDict w b W wd ta tb news
  a0 : 0 ≤ ta
  b0 : 0 ≤ tb
  xa : ∃ o d, ts[ta.toNat]? = some (o, so, d)
  xb : ∃ o d, ts[tb.toNat]? = some (o, so, d)
  s0 : 0 ≤ so
  hw : ws[so.toNat]? = some wd
  w1 : 1 ≤ wd
  w2 : wd ≤ 70
theorem WO.upd {w : World} {b : BA} {ts ts' : List Term} {ws ws' : List Int} {c c' : Nat} {W : Addr} {wd ta tb so : Int} {news news' : Led} (h : WO w b ts ws c W wd ta tb so news) (fb : FB w b ts' ws' c' news') (hs : ts <+: ts') (hs' : ws <+: ws') (hd : WDict w b W wd ta tb news') : WO w b ts' ws' c' W wd ta tb so news' where
  fb := fb
  above := h.above
  dict := hd
  a0 := h.a0
  b0 := h.b0
  xa := let ⟨o, d, r⟩ := h.xa; ⟨o, d, get_prefix hs r⟩
  xb := let ⟨o, d, r⟩ := h.xb; ⟨o, d, get_prefix hs r⟩
  s0 := h.s0
  hw := get_prefix hs' h.hw
  w1 := h.w1
  w2 := h.w2
theorem WO.next {w : World} {b : BA} {ts ts' : List Term} {ws ws' : List Int} {c c' : Nat} {W : Addr} {wd ta tb so : Int} {news news' : Led} (h : WO w b ts ws c W wd ta tb so news) (fb : FB w b ts' ws' c' news') (hs : ts <+: ts') (hs' : ws <+: ws') (hk : Kept b news news') : WO w b ts' ws' c' W wd ta tb so news' :=
  h.upd fb hs hs' (h.dict.on fun _ hm => hk _ hm (.inr (.inl h.above)))
theorem WO.cons {w : World} {b : BA} {ts : List Term} {ws : List Int} {c : Nat} {W : Addr} {wd ta tb so : Int} {news : Led} {e : Addr × Obj} (h : WO w b ts ws c W wd ta tb so news) : WO w b ts ws c W wd ta tb so (e :: news) := h.upd h.fb.cons (List.prefix_refl _) (List.prefix_refl _) (h.dict.on fun _ hm => .tail _ hm)
theorem WO.off {w : World} {b : BA} {ts : List Term} {ws : List Int} {c : Nat} {W : Addr} {wd ta tb so : Int} {T T' : Led} (h : WO w b ts ws c W wd ta tb so T) (hs : ∀ p ∈ T, (IsT p.2 ∨ @LE.le Nat _ p.1 W) → p ∈ T') : WO w b ts ws c W wd ta tb so T' :=
  h.upd (h.fb.off fun p hp q => hs p hp (q.imp id fun q => Nat.le_trans q (Nat.le_of_lt h.above))) (List.prefix_refl _) (List.prefix_refl _) (h.dict.on fun _ hm => hs _ hm (.inr (Nat.le_refl _)))

section
variable {prog : Program} {w : World} {A : Around} {E : Value → Shared → Prop} {s : Shared} {h₀ : Heap} {L W : Addr} {news : Led} {o : Obj} {kvs : List (Str × Value)} {k : Str} {t : Tok} {v : Value} {Q : Value → Shared → Prop}
theorem item_world {value slice : PySem.Expr} (N : News h₀ L s.heap news) (hm : (W, o) ∈ news) (hd : o.IsDictOf (strKind prog w) kvs) (hv : valueAt kvs k = some v) (h : Q v { s with toks := s.toks + 1 })
    (hs : subscripted slice false (.ref W) (.str k t) = operate [.ref W, .str k t] (getItem (.ref W) (.str k t)) := by with_unfolding_all rfl) :
    wpAny (model prog w) A (subscriptTail value slice (.ref W) (.str k t)) Q E s :=
  have D : s.heap.DictOf (strKind prog w) W kvs := Heap.dictOf_iff.mpr ⟨o, N.get hm, hd⟩
  tail_any D.typeIs slot_dict_getitem.lookup (wpAny_getItem_of (strKind_is _ _ _ _) D.mapOf hv h) hs
end
section
variable {w : World} {S : Scope} {z : Nat} {c : Fx w S z} {env : Env} {l : FL} {I I1 : Led → Prop} {J : Value → Led → Prop} {b : BA} {W : Addr} {wd ta tb : Int} {e : PySem.Expr} {x : Str} {p p2 p3 : Pos} {k : Nat} {V : Value → Prop}
theorem ei_world (h : Ei c env l I e (isR W) I1) (hw : ∀ nw, I1 nw → WDict w b W wd ta tb nw) (hv : ∀ kvs : List (Str × Value), valueAt kvs (Str.ofString "bank") = some (Value.ref b.M.B) → (∃ t, valueAt kvs (Str.ofString "width") = some (Value.int wd t)) → (∃ t, valueAt kvs (Str.ofString "a") = some (Value.int ta t)) → (∃ t, valueAt kvs (Str.ofString "b") = some (Value.int tb t)) → ∃ v, valueAt kvs x = some v ∧ V v)
    (hs : ∀ t, subscripted (.Constant (.str x) k p2) false (.ref W) (.str x t) = operate [.ref W, .str x t] (getItem (.ref W) (.str x t))) : Ei c env l I (.Subscript e (.Constant (.str x) k p2) p3) V I1 := by
  with_unfolding_all
    exact fun m s news Q E fo F N i ret =>
      Subscript_ (h m s news _ E fo F N i fun u n1 h' tk' F' N' j => Constant_str (by
        obtain rfl : u = .ref W := j.1
        obtain ⟨o, kvs, hm, hd, r1, r2, r3, r4⟩ := hw _ j.2
        obtain ⟨v, hv1, hv2⟩ := hv kvs r1 r2 r3 r4
        exact item_world N' hm hd hv1 (ret v n1 h' _ F' N' ⟨hv2, j.2⟩) (hs _)))
theorem ei_wBank (h : Ei c env l I e (isR W) I1) (hw : ∀ nw, I1 nw → WDict w b W wd ta tb nw) : Ei c env l I (.Subscript e (.Constant (.str (Str.ofString "bank")) k p2) p3) (isR b.M.B) I1 := ei_world h hw (fun kvs r1 _ _ _ => ⟨_, r1, rfl⟩) fun t => by with_unfolding_all rfl
theorem ei_wWidth (h : Ei c env l I e (isR W) I1) (hw : ∀ nw, I1 nw → WDict w b W wd ta tb nw) : Ei c env l I (.Subscript e (.Constant (.str (Str.ofString "width")) k p2) p3) (isI wd) I1 := ei_world h hw (fun kvs _ r _ _ => let ⟨t, r⟩ := r; ⟨_, r, t, rfl⟩) fun t => by with_unfolding_all rfl
theorem ei_wA (h : Ei c env l I e (isR W) I1) (hw : ∀ nw, I1 nw → WDict w b W wd ta tb nw) : Ei c env l I (.Subscript e (.Constant (.str (Str.ofString "a")) k p2) p3) (isI ta) I1 := ei_world h hw (fun kvs _ _ r _ => let ⟨t, r⟩ := r; ⟨_, r, t, rfl⟩) fun t => by with_unfolding_all rfl
theorem ei_wB (h : Ei c env l I e (isR W) I1) (hw : ∀ nw, I1 nw → WDict w b W wd ta tb nw) : Ei c env l I (.Subscript e (.Constant (.str (Str.ofString "b")) k p2) p3) (isI tb) I1 := ei_world h hw (fun kvs _ _ _ r => let ⟨t, r⟩ := r; ⟨_, r, t, rfl⟩) fun t => by with_unfolding_all rfl
theorem ti_isNone {β : Bool} {p4 : Pos} (h : Ei c env l I e V I1) (hv : ∀ u, V u → (u == .none) = β) : Et c env l I (.Compare e [.Is] [.Constant .none k p2] p4) β I1 := by
  with_unfolding_all
    exact fun m s news Q E fo F N i ret =>
      wpAny_isTrue_Compare1 (h m s news _ E fo F N i fun u n1 h' tk' F' N' j => wpAny_pure (is_none_gen (by rw [hv u j.1]; exact wpAny_truthy_bool (ret n1 h' tk' F' N' j.2)))) (marks_of rfl)
inductive PE (c : Fx w S z) (env : Env) (l : FL) (K : Led → Prop) : List PySem.Expr → List (Int × Int) → Prop
  | nil : PE c env l K [] []
  | cons {ex ew : PySem.Expr} {k : Nat} {p : Pos} {es : List PySem.Expr} {x n : Int} {ps : List (Int × Int)} (h : ∀ I : Led → Prop, (∀ nw, I nw → K nw) → EiL c env l I [ex, ew] [isI x, isI n] I) (hs : PE c env l K es ps) : PE c env l K (.Tuple [ex, ew] k p :: es) ((x, n) :: ps)
def AllPr (nw : Led) : List (Addr × Value × Value) → List (Int × Int) → Prop
  | [], [] => True
  | q :: qs, p :: ps => (∃ k, (q.1, tupO #[q.2.1, q.2.2] k) ∈ nw) ∧ (isI p.1 q.2.1 ∧ isI p.2 q.2.2) ∧ AllPr nw qs ps
  | _, _ => False
theorem AllPr.mono {nw nw' : Led} (q : Ext nw nw') : ∀ {qs : List (Addr × Value × Value)} {ps : List (Int × Int)}, AllPr nw qs ps → AllPr nw' qs ps
  | [], [], _ => trivial
  | [], _ :: _, h => h.elim
  | _ :: _, [], h => h.elim
  | _ :: _, _ :: _, h => ⟨h.1.imp fun _ h => q _ h, h.2.1, AllPr.mono q h.2.2⟩
theorem AllPr.prs {nw : Led} : ∀ {qs : List (Addr × Value × Value)} {ps : List (Int × Int)}, AllPr nw qs ps → qs.length = ps.length ∧ (∀ p ∈ qs, ∃ k', (p.1, tupO #[p.2.1, p.2.2] k') ∈ nw) ∧ ∀ (i : Nat) (q : Addr × Value × Value) (p : Int × Int), qs[i]? = some q → ps[i]? = some p → isI p.1 q.2.1 ∧ isI p.2 q.2.2
  | [], [], _ => ⟨rfl, (fun _ h => nomatch h), (fun _ _ _ h => nomatch h)⟩
  | [], _ :: _, h => h.elim
  | _ :: _, [], h => h.elim
  | q :: _, p :: _, h => by
    obtain ⟨r1, r2, r3⟩ := h.2.2.prs
    refine ⟨congrArg (· + 1) r1, fun p hp => ?_, fun i q' p' h1 h2 => ?_⟩
    · rcases List.mem_cons.mp hp with rfl | hp
      · exact h.1
      · exact r2 p hp
    · cases i with
      | zero =>
        obtain rfl := Option.some.inj h1
        obtain rfl := Option.some.inj h2
        exact h.2.1
      | succ i => exact r3 i q' p' h1 h2
inductive PrsL (K : Led → Prop) (ps : List (Int × Int)) (vs : List Value) (nw : Led) : Prop
  | mk (qs : List (Addr × Value × Value)) (e : vs = qs.map fun q => Value.ref q.1) (h : AllPr nw qs ps) (k : K nw) : PrsL K ps vs nw
theorem egl_prs {K : Led → Prop} (hc : ∀ e nw, K nw → K (e :: nw)) {es : List PySem.Expr} {ps : List (Int × Int)} (h : PE c env l K es ps) : ∀ {I : Led → Prop}, (∀ nw, I nw → K nw) → (∀ e nw, I nw → I (e :: nw)) → EgL c env l I es (PrsL I ps) := by
  with_unfolding_all
    induction h with
    | nil => exact fun _ _ => egl_nil fun nw i => ⟨[], rfl, trivial, i⟩
    | cons h1 h2 ih =>
      intro I hI hI2
      refine egl_cons rfl (eg_tuple (h1 I hI) fun vs nw j => by rw [alls_len j.1]; exact Nat.le_of_ble_eq_true rfl) fun u => egl_ex fun D => egl_ex fun vs => egl_ex fun n0 => egl_and fun hu => egl_pre (I := fun nw => (D, tupO (List.toArray vs) 0) ∈ nw ∧ Alls [isI _, isI _] vs ∧ I nw) ?_ fun nw ⟨e, j, _⟩ => ⟨by rw [e]; exact .head _, j.1, by rw [e]; exact hI2 _ _ j.2⟩
      refine fun pos m s nw Q E fo F N i ret => ih (I := fun nw => (D, tupO (List.toArray vs) 0) ∈ nw ∧ Alls [isI _, isI _] vs ∧ I nw) (fun nw i => hI _ i.2.2) (fun e nw i => ⟨.tail _ i.1, i.2.1, hI2 _ _ i.2.2⟩) pos m s nw Q E fo F N i fun vs2 n2 h' tk' F' N' ⟨qs, e, hq, i2⟩ => ?_
      obtain ⟨v1, v2, e3, h3, h4⟩ := alls2 i2.2.1
      subst e3
      exact ret _ n2 h' tk' F' N' ⟨(D, v1, v2) :: qs, by rw [hu, e]; rfl, ⟨⟨0, i2.1⟩, ⟨h3, h4⟩, hq⟩, i2.2.2⟩
theorem gl_told : nsIn (kF w.params) mainGlobals "_law_told" = some (some (.ref 768)) := by kernel_rfl
theorem kp_told : keepIn (kF w.params) (.ref 768) = true := by kernel_rfl
inductive ToldA {α : Type} (b : BA) (tm : α → Int) (K : α → Led → Prop) (ps : List (Int × Int)) (vs : List Value) (nw : Led) : Prop
  | mk (a : α) (tk : Tok) (Nn : Addr) (e : vs = [.ref b.M.B, .int (tm a) tk, .ref Nn]) (k : K a nw) (hp : PrsIn nw Nn ps) : ToldA b tm K ps vs nw
theorem eg_told {α : Type} {tm : α → Int} {eb et : PySem.Expr} {es : List PySem.Expr} {ps : List (Int × Int)} {K K' : α → Led → Prop} {p1 p4 : Pos} (hf : Ei c env l I (.Name (Str.ofString "_law_told") p) (isR 768) I) (hz : Nat.ble 12 z = true) (hu : [eb, et].all unstarred = true) (hb : Ei c env l I eb (isR b.M.B) I) (ht : Eg c env l I et fun u nw => ∃ a, isI (tm a) u ∧ K a nw) (hc : ∀ a e nw, K' a nw → K' a (e :: nw)) (hp : ∀ a, EgL c env l (K a) es (PrsL (K' a) ps)) (hlen : Nat.ble ps.length 1000 = true)
    (hs : ∀ a tk Nn nw, K' a nw → PrsIn nw Nn ps → Spec w 768 12 nw [.ref b.M.B, .int (tm a) tk, .ref Nn] fun r n => n = nw ∧ V r) : Eg c env l I (.Call (.Name (Str.ofString "_law_told") p) [eb, et, .List es p1] [] p4) fun u nw => V u ∧ ∃ a, K' a nw :=
  have u1 := Bool.and_eq_true_iff.mp hu
  eg_call (f := 768) (sz := 12) (JA := ToldA b tm K' ps) hf kp_told hz (Bool.and_eq_true_iff.mpr ⟨u1.1, Bool.and_eq_true_iff.mpr ⟨(Bool.and_eq_true_iff.mp u1.2).1, rfl⟩⟩)
    (egl_cons u1.1 hb fun u => egl_and fun e1 => egl_cons (Bool.and_eq_true_iff.mp u1.2).1 ht fun u2 => egl_ex fun t => egl_and fun e2 => egl_cons rfl (eg_list (hp t) fun vs nw h => by
      obtain ⟨qs, e, hq, _⟩ := h
      rw [e, List.length_map, hq.prs.1]; exact Nat.le_of_ble_eq_true hlen) fun u3 => egl_ex fun D => egl_ex fun vs => egl_ex fun n0 => egl_and fun q1 => egl_nil fun nw j => by
      obtain ⟨tk, e2⟩ := e2
      obtain ⟨q2, ⟨qs, e, hq, k⟩, _⟩ := j
      have x := (hq.mono (nw' := nw) fun p hp => by rw [q2]; exact .tail _ hp).prs
      exact ⟨t, tk, D, by rw [e1, e2, q1], by rw [q2]; exact hc t _ _ k, .mk qs 0 ⟨by rw [q2, e]; exact .head _, x.2.1⟩ x.1 x.2.2⟩)
    fun vs nw h N j => by
      obtain ⟨a, tk, Nn, e, k, pr⟩ := j
      subst e
      exact (hs a tk Nn nw k pr).mono fun r n q => ⟨q.2, a, by rw [q.1]; exact k⟩
theorem ei_toldN (hx : c.env.kindOf (Str.ofString "_law_told") = some .globalImplicit) : Ei c c.env l I (.Name (Str.ofString "_law_told") p) (isR 768) I := ei_glob hx (by decide) gl_told
end
theorem one_range {op : Str} {x n : Int} (hx0 : 0 ≤ x) (hx1 : x < 2 ^ n.toNat) (hop : op = Str.ofString "bvnot" ∨ op = Str.ofString "bvneg") : 0 ≤ one op x n ∧ one op x n < 2 ^ n.toNat := by
  have hp := PySem.W.kbt_pos n.toNat
  rcases hop with rfl | rfl
  · rw [one_bvnot]; omega
  · rw [one_bvneg]; exact ⟨Int.emod_nonneg _ (by omega), Int.emod_lt_of_pos _ hp⟩
theorem mod_range (x : Int) (k : Nat) : 0 ≤ x % 2 ^ k ∧ x % 2 ^ k < 2 ^ k := ⟨Int.emod_nonneg _ (Int.ne_of_gt (PySem.W.kbt_pos k)), Int.emod_lt_of_pos _ (PySem.W.kbt_pos k)⟩
theorem works1 {w : World} {b : BA} {ts : List Term} {ws : List Int} {c : Nat} {t x wx v wd : Int} (h : ∀ news tk V T1, FB w b ts ws c news → (V, tupO #[.ref T1] 0) ∈ news → BvIn news T1 x wx → Spec w 749 8 news [.ref b.M.B, .int t tk, .ref V] (Told3 news v wd)) : Works w b ts ws c t [(x, wx)] v wd := fun news tk V Ts hb hV hT => by
  match Ts, hT with
  | [T], hT => exact h news tk V T hb hV hT.1
  | _ :: _ :: _, hT => exact hT.2.elim
theorem works2 {w : World} {b : BA} {ts : List Term} {ws : List Int} {c : Nat} {t x wx y wy v wd : Int} (h : ∀ news tk V T1 T2, FB w b ts ws c news → (V, tupO #[.ref T1, .ref T2] 0) ∈ news → BvIn news T1 x wx → BvIn news T2 y wy → Spec w 749 8 news [.ref b.M.B, .int t tk, .ref V] (Told3 news v wd)) : Works w b ts ws c t [(x, wx), (y, wy)] v wd := fun news tk V Ts hb hV hT => by
  match Ts, hT with
  | [T], hT => exact hT.2.elim
  | [T, U], hT => exact h news tk V T U hb hV hT.1 hT.2.1
  | _ :: _ :: _ :: _, hT => exact hT.2.2.elim
inductive Gave (w : World) (b : BA) (ts : List Term) (ws : List Int) (c : Nat) (news : Led) (v : Int) (r : Value) (news' : Led) : Prop
  | mk (tk : Tok) (ts' : List Term) (ws' : List Int) (hr : r = .int v tk) (hb : FB w b ts' ws' c news') (hs : ts <+: ts') (hv : ws <+: ws') (hk : Kept b news news') : Gave w b ts ws c news v r news'
inductive MkT (w : World) (b : BA) (ts : List Term) (ws : List Int) (c : Nat) (news : Led) (op : Str) (dat : Sum Int (Int × Int)) (wt : Int) (t : Int) (nw : Led) : Prop
  | mk (ts' : List Term) (ws' : List Int) (so : Int) (fb : FB w b ts' ws' c nw) (hs : ts <+: ts') (hv : ws <+: ws') (h0 : 0 ≤ t) (hx : ts'[t.toNat]? = some (op, so, dat)) (s0 : 0 ≤ so) (hw : ws'[so.toNat]? = some wt) (hk : Kept b news nw) : MkT w b ts ws c news op dat wt t nw
theorem MkT.cons {w : World} {b : BA} {ts : List Term} {ws : List Int} {c : Nat} {news nw : Led} {op : Str} {dat : Sum Int (Int × Int)} {wt t : Int} {e : Addr × Obj} (h : MkT w b ts ws c news op dat wt t nw) : MkT w b ts ws c news op dat wt t (e :: nw) :=
  let ⟨ts', ws', so, fb, hs, hv, h0, hx, s0, hw, hk⟩ := h
  ⟨ts', ws', so, fb.cons, hs, hv, h0, hx, s0, hw, fun p hp q => .tail _ (hk p hp q)⟩
theorem Made.mkT {w : World} {b : BA} {ts : List Term} {ws : List Int} {c : Nat} {news n0 nw : Led} {op : Str} {dat : Sum Int (Int × Int)} {so wt : Int} {r : Value} (q : Ext news n0) (s0 : 0 ≤ so) (hw : ws[so.toNat]? = some wt) (h : Made w b ts ws c n0 (op, so, dat) r nw) : ∃ t, isI t r ∧ MkT w b ts ws c news op dat wt t nw :=
  let ⟨t, tk, ts', hr, _, hb, hs, hx, hk⟩ := h
  ⟨t, ⟨tk, hr⟩, ts', ws, so, hb, hs, List.prefix_refl _, Int.natCast_nonneg _, hx, s0, hw, fun p hp z => hk p (q p hp) z⟩
theorem MadeS.mkT {w : World} {b : BA} {ts : List Term} {ws : List Int} {c : Nat} {news n0 nw : Led} {op : Str} {dat : Sum Int (Int × Int)} {wt : Int} {r : Value} (q : Ext news n0) (h : MadeS w b ts ws c n0 op dat wt r nw) : ∃ t, isI t r ∧ MkT w b ts ws c news op dat wt t nw :=
  let ⟨t, tk, ts', ws', j, hr, _, hb, hs, hv, hx, hw, hk⟩ := h
  ⟨t, ⟨tk, hr⟩, ts', ws', j, hb, hs, hv, Int.natCast_nonneg _, hx, Int.natCast_nonneg _, hw, fun p hp z => hk p (q p hp) z⟩
theorem told_of {w : World} {b : BA} {ts : List Term} {ws : List Int} {c : Nat} {news nw : Led} {op : Str} {dat : Sum Int (Int × Int)} {wt t v : Int} {tk : Tok} {Nn : Addr} {ps : List (Int × Int)} (h : MkT w b ts ws c news op dat wt t nw) (hN : PrsIn nw Nn ps) (hl : Nat.ble ps.length 1000 = true) (h1 : 1 ≤ wt) (h2 : wt ≤ 150) (hv : 0 ≤ v ∧ v < 2 ^ wt.toNat)
    (hw : ∀ ts' ws' so, ts'[t.toNat]? = some (op, so, dat) → 0 ≤ t → 0 ≤ so → ws'[so.toNat]? = some wt → Works w b ts' ws' c t ps v wt) : Spec w 768 12 nw [.ref b.M.B, .int t tk, .ref Nn] fun r n => n = nw ∧ isI v r :=
  let ⟨_, _, so, fb, _, _, h0, hx, s0, hw', _⟩ := h
  spec_told w fb h0 hx s0 hw' h1 h2 hN (Nat.le_of_ble_eq_true hl) (hw _ _ so hx h0 s0 hw') hv.1 hv.2
theorem gave_of {w : World} {b : BA} {ts : List Term} {ws : List Int} {c : Nat} {news nw : Led} {op : Str} {dat : Sum Int (Int × Int)} {wt v : Int} {u : Value} (h : isI v u ∧ ∃ t, MkT w b ts ws c news op dat wt t nw) : Gave w b ts ws c news v u nw :=
  let ⟨⟨tk, e⟩, _, ts', ws', _, fb, hs, hv, _, _, _, _, hk⟩ := h
  ⟨tk, ts', ws', e, fb, hs, hv, hk⟩
theorem bm_bv_two {w : World} : BM w "bv_two" 681 := ⟨by kernel_rfl, by kernel_rfl, by kernel_rfl, by kernel_rfl⟩
theorem bm_bv_one {w : World} : BM w "bv_one" 674 := ⟨by kernel_rfl, by kernel_rfl, by kernel_rfl, by kernel_rfl⟩
theorem bm_extract {w : World} : BM w "extract" 695 := ⟨by kernel_rfl, by kernel_rfl, by kernel_rfl, by kernel_rfl⟩
section
variable (w : World) {b : BA} {ts : List Term} {ws : List Int} {c : Nat} {news : Led} {W : Addr} {wd ta tb so : Int} {op : Str} {x y high low : Int} {t1 t2 t3 : Tok} (hw : WO w b ts ws c W wd ta tb so news)
include hw
theorem spec_of2 (hc : c < 1000000) (hx0 : 0 ≤ x) (hx1 : x < 2 ^ wd.toNat) (hy0 : 0 ≤ y) (hy1 : y < 2 ^ wd.toNat) (hop : Two op) : Spec w 783 20 news [.ref W, .str op t1, .int x t2, .int y t3] (Gave w b ts ws (c + 1) news (two op x y wd)) := by
  obtain ⟨oa, da, xa⟩ := hw.xa
  obtain ⟨ob, db, xb⟩ := hw.xb
  have w1 := hw.w1
  have w2 := hw.w2
  have hd : ∀ nw, Ext news nw → WDict w b W wd ta tb nw := fun nw q => hw.dict.on fun o hm => q _ hm
  have hb : ∀ nw, Ext news nw → FB w b ts ws c nw := fun nw q => hw.fb.mono q
  exact spec_defB (o := o783) (binds := [(Str.ofString "world", Value.ref W), (Str.ofString "word", .str op t1), (Str.ofString "x", .int x t2), (Str.ofString "y", .int y t3)]) (by kernel_rfl) rfl (by kernel_rfl) (fun s X => binds_K (o := o776) X rfl (by kernel_rfl) rfl rfl rfl) (locs rfl) rfl rfl rfl (by decide) fun c' _ => sr_pre (I := Ext news) (sr_tup2 (I2 := Ext news) (by kernel_rfl) (by kernel_rfl) rfl rfl (eil_cons rfl (ei_wBank (ei_name rfl) hd) (eil_cons rfl (ei_wWidth (ei_name rfl) hd) eil_nil)) (fun e nw i p hp => .tail _ (i p hp))
    (sr_ifF (ti_isNone (V := isI y) (ei_name rfl) fun u ⟨t, e⟩ => by rw [e]; rfl) (sr_ret (eg_mono (eg_told (tm := id) (K := MkT w b ts ws (c + 1) news op (.inl 0) wd) (K' := MkT w b ts ws (c + 1) news op (.inl 0) wd) (ps := [(x, wd), (y, wd)]) (ei_toldN (by kernel_rfl)) rfl rfl (ei_name rfl)
      (eg_mono (eg_meth (sz := 4) (JA := fun vs nw => Alls [isS op, isI ta, isI tb] vs ∧ Ext news nw) bm_bv_two (ei_name rfl) (fun nw i => (hb nw i).field fun es af => af.bv_two) rfl rfl (eil_cons rfl (ei_name rfl) (eil_cons rfl (ei_wA (ei_name rfl) hd) (eil_cons rfl (ei_wB (ei_name rfl) hd) eil_nil))) (fun vs nw h N j => pt_elim (ps := [.S op, .I ta, .I tb]) (P := fun vs => Spec w 681 4 nw (.ref b.M.B :: vs) _) (fun t1 t2 t3 => (spec_bv_two w (hb nw j.2) hc hw.a0 xa hw.s0 hw.hw (by omega) hw.b0 xb rfl hop).mono fun r n q => (⟨nw, j.2, q⟩ : ∃ n0, Ext news n0 ∧ Made w b ts ws (c + 1) n0 (op, so, .inl 0) r n)) j.1) (meth0 rfl rfl rfl rfl)) fun u nw ⟨n0, q, h⟩ => h.mkT q hw.s0 hw.hw)
      (fun t e nw h => h.cons) (fun t => egl_prs (fun e nw h => h.cons) (.cons (fun I hI => eil_cons rfl (ei_name rfl) (eil_cons rfl (ei_name rfl) eil_nil)) (.cons (fun I hI => eil_cons rfl (ei_name rfl) (eil_cons rfl (ei_name rfl) eil_nil)) .nil)) (fun _ h => h) fun e nw h => h.cons) rfl (V := isI (two op x y wd))
      fun t tk Nn nw h hN => told_of h hN rfl w1 (by omega) (two_range hx0 hx1 hy0 hy1 hop) fun ts' ws' so' hx h0 s0 hw' => works2 fun news tk V T1 T2 hb hV hT hU => spec_bits_two w hb h0 s0 hw' w1 (by omega) hV hT hU hx0 hx1 hy0 hy1 hop hx) fun u nw j => gave_of j)))) fun nw e p hp => by rw [show nw = news from e]; exact hp
theorem spec_of1 (hc : c < 1000000) (hx0 : 0 ≤ x) (hx1 : x < 2 ^ wd.toNat) (hop : op = Str.ofString "bvnot" ∨ op = Str.ofString "bvneg") : Spec w 783 20 news [.ref W, .str op t1, .int x t2] (Gave w b ts ws (c + 1) news (one op x wd)) := by
  obtain ⟨oa, da, xa⟩ := hw.xa
  have w1 := hw.w1
  have w2 := hw.w2
  have hd : ∀ nw, Ext news nw → WDict w b W wd ta tb nw := fun nw q => hw.dict.on fun o hm => q _ hm
  have hb : ∀ nw, Ext news nw → FB w b ts ws c nw := fun nw q => hw.fb.mono q
  exact spec_defB (o := o783) (binds := [(Str.ofString "world", Value.ref W), (Str.ofString "word", .str op t1), (Str.ofString "x", .int x t2), (Str.ofString "y", .none)]) (by kernel_rfl) rfl (by kernel_rfl) (fun s X => binds_K (o := o776) X rfl (by kernel_rfl) rfl rfl rfl) (locs rfl) rfl rfl rfl (by decide) fun c' _ => sr_pre (I := Ext news) (sr_tup2 (I2 := Ext news) (by kernel_rfl) (by kernel_rfl) rfl rfl (eil_cons rfl (ei_wBank (ei_name rfl) hd) (eil_cons rfl (ei_wWidth (ei_name rfl) hd) eil_nil)) (fun e nw i p hp => .tail _ (i p hp))
    (sr_if (β := true) (ti_isNone (V := fun u => u = .none) (ei_name rfl) fun u e => by rw [e]; rfl) (fun _ => sr_ret (eg_mono (eg_told (tm := id) (K := MkT w b ts ws (c + 1) news op (.inl 0) wd) (K' := MkT w b ts ws (c + 1) news op (.inl 0) wd) (ps := [(x, wd)]) (ei_toldN (by kernel_rfl)) rfl rfl (ei_name rfl)
      (eg_mono (eg_meth (sz := 4) (JA := fun vs nw => Alls [isS op, isI ta] vs ∧ Ext news nw) bm_bv_one (ei_name rfl) (fun nw i => (hb nw i).field fun es af => af.bv_one) rfl rfl (eil_cons rfl (ei_name rfl) (eil_cons rfl (ei_wA (ei_name rfl) hd) eil_nil)) (fun vs nw h N j => pt_elim (ps := [.S op, .I ta]) (P := fun vs => Spec w 674 4 nw (.ref b.M.B :: vs) _) (fun t1 t2 => (spec_bv_one w (hb nw j.2) hc hw.a0 xa hw.s0 hw.hw (by omega) hop).mono fun r n q => (⟨nw, j.2, q⟩ : ∃ n0, Ext news n0 ∧ Made w b ts ws (c + 1) n0 (op, so, .inl 0) r n)) j.1) (meth0 rfl rfl rfl rfl)) fun u nw ⟨n0, q, h⟩ => h.mkT q hw.s0 hw.hw)
      (fun t e nw h => h.cons) (fun t => egl_prs (fun e nw h => h.cons) (.cons (fun I hI => eil_cons rfl (ei_name rfl) (eil_cons rfl (ei_name rfl) eil_nil)) .nil) (fun _ h => h) fun e nw h => h.cons) rfl (V := isI (one op x wd))
      fun t tk Nn nw h hN => told_of h hN rfl w1 (by omega) (one_range hx0 hx1 hop) fun ts' ws' so' hx h0 s0 hw' => works1 fun news tk V T1 hb hV hT => spec_bits_one w hb h0 s0 hw' w1 (by omega) hV hT hop hx) fun u nw j => gave_of j)) fun q => by cases q)) fun nw e p hp => by rw [show nw = news from e]; exact hp
end

inductive TrueW (w : World) (b : BA) (c : Nat) (W : Addr) (wd ta tb so : Int) (news : Led) (r : Value) (news' : Led) : Prop
  | mk (ts' : List Term) (ws' : List Int) (c' : Nat) (hr : r = .bool true) (hw : WO w b ts' ws' c' W wd ta tb so news') (hc : c' ≤ c) (hk : Kept b news news') : TrueW w b c W wd ta tb so news r news'
structure Cx (S : Scope) where
  w : World
  fx : Fx w S 29
  b : BA
  W : Addr
  wd : Int
  ta : Int
  tb : Int
  so : Int
  c0 : Nat
  hc0 : c0 ≤ 990000
  ts0 : List Term
  ws0 : List Int
def InR (wd x : Int) : Prop := 0 ≤ x ∧ x < 2 ^ wd.toNat
section
variable {S : Scope}
abbrev Cx.env (c : Cx S) : Env := c.fx.env
inductive Cx.N (c : Cx S) (n : Nat) (news : Led) : Prop
  | mk (ts : List Term) (ws : List Int) (k : Nat) (hw : WO c.w c.b ts ws k c.W c.wd c.ta c.tb c.so news) (hk : k ≤ c.c0 + n ∧ c.ts0 <+: ts ∧ c.ws0 <+: ws) : Cx.N c n news
structure Cx.I (c : Cx S) (P : Addr × Obj → Prop) (n : Nat) (news : Led) : Prop where
  w : c.N n news
  p : ∀ p, P p → Keep c.b p ∧ p ∈ news
variable {c : Cx S} {env : Env} {P : Addr × Obj → Prop} {l l' : FL} {n n' n1 n2 n3 : Nat}
theorem Cx.I.cons {news : Led} {e : Addr × Obj} (h : c.I P n news) : c.I P n (e :: news) :=
  ⟨let ⟨ts, ws, k, x, y⟩ := h.w; ⟨ts, ws, k, x.cons, y⟩, fun p hp => ⟨(h.2 p hp).1, .tail _ (h.2 p hp).2⟩⟩
theorem Cx.I.le' {news : Led} (h : c.I P n news) (q : n ≤ n') : c.I P n' news :=
  ⟨let ⟨ts, ws, k, x, y⟩ := h.w; ⟨ts, ws, k, x, Nat.le_trans y.1 (Nat.add_le_add_left q _), y.2⟩, h.2⟩
theorem Cx.I.le {news : Led} (h : c.I P n news) (q : Nat.ble n n' = true) : c.I P n' news := h.le' (Nat.le_of_ble_eq_true q)
theorem Cx.I.dict {news : Led} (h : c.I P n news) : WDict c.w c.b c.W c.wd c.ta c.tb news := let ⟨_, _, _, x, _⟩ := h.w; x.dict
theorem I_start {news : Led} (h : WO c.w c.b c.ts0 c.ws0 c.c0 c.W c.wd c.ta c.tb c.so news) : c.I (fun p => p ∈ news ∧ Keep c.b p) 0 news := ⟨⟨_, _, c.c0, h, Nat.le_refl _, List.prefix_refl _, List.prefix_refl _⟩, fun p q => ⟨q.2, q.1⟩⟩
theorem trueW_of {news news' : Led} {u : Value} (h : c.I (fun p => p ∈ news ∧ Keep c.b p) n news') (hu : isB true u) : TrueW c.w c.b (c.c0 + n) c.W c.wd c.ta c.tb c.so news u news' :=
  let ⟨ts, ws, k, hw, hk⟩ := h.w
  ⟨ts, ws, k, hu, hw, hk.1, fun p hp q => (h.2 p ⟨hp, q⟩).2⟩
@[irreducible] def Ev (c : Cx S) (env : Env) (P : Addr × Obj → Prop) (l : FL) (e : PySem.Expr) (V : Value → Prop) (n n' : Nat) : Prop := Ei c.fx env l (c.I P n) e V (c.I P n')
@[irreducible] def EvL (c : Cx S) (env : Env) (P : Addr × Obj → Prop) (l : FL) (es : List PySem.Expr) (Vs : List (Value → Prop)) (n n' : Nat) : Prop := EiL c.fx env l (c.I P n) es Vs (c.I P n')
@[irreducible] def EvT (c : Cx S) (env : Env) (P : Addr × Obj → Prop) (l : FL) (t : PySem.Expr) (β : Bool) (n n' : Nat) : Prop := Et c.fx env l (c.I P n) t β (c.I P n')
@[irreducible] def Ex (c : Cx S) (P : Addr × Obj → Prop) (l : FL) (ss : List Stmt) (V : Value → Prop) (n n' : Nat) : Prop := Si c.fx (c.I P n) l ss V (c.I P n')
@[irreducible] def ExN (c : Cx S) (P : Addr × Obj → Prop) (l : FL) (ss : List Stmt) (l' : FL) (n n' : Nat) : Prop := Sf c.fx (c.I P n) l ss l' (c.I P n')
theorem ev_name {x : Str} {pos : Pos} {V : Value → Prop} (hl : l.lookup x = some V) (hx : c.env.kindOf x = some .local) (hd : (x == ("__debug__" : Str)) = false) : Ev c c.env P l (.Name x pos) V n n := by with_unfolding_all exact ei_name hl hx hd
theorem ev_int {i : Int} {k : Tok} {pos : Pos} : Ev c env P l (.Constant (.int i) k pos) (isI i) n n := by with_unfolding_all exact ei_int
theorem ev_str {x : Str} {k : Nat} {pos : Pos} : Ev c env P l (.Constant (.str x) k pos) (isS x) n n := by with_unfolding_all exact ei_str
theorem evl_nil : EvL c env P l [] [] n n := by with_unfolding_all exact eil_nil
theorem evl_cons {e : PySem.Expr} {es : List PySem.Expr} {V : Value → Prop} {Vs : List (Value → Prop)} (he : unstarred e = true) (h : Ev c env P l e V n n1) (hs : EvL c env P l es Vs n1 n2) : EvL c env P l (e :: es) (V :: Vs) n n2 := by with_unfolding_all exact eil_cons he h hs
theorem ev_glob {fn : Str} {p1 : Pos} {f : Addr} (hx : c.env.kindOf fn = some .globalImplicit) (hd : (fn == ("__debug__" : Str)) = false) (hf : nsIn (kF c.w.params) mainGlobals fn = some (some (.ref f))) : Ev c c.env P l (.Name fn p1) (isR f) n n := by with_unfolding_all exact ei_glob hx hd hf
theorem ev_call {fn : Str} {p1 p2 : Pos} {f : Addr} {sz : Nat} {e : PySem.Expr} {es : List PySem.Expr} {Vs : List (Value → Prop)} {V : Value → Prop} (hfe : Ev c env P l (.Name fn p1) (isR f) n n)
    (hp : keepIn (kF c.w.params) (.ref f) = true) (hz : Nat.ble sz 29 = true) (hu : (e :: es).all unstarred = true) (ha : EvL c env P l (e :: es) Vs n n1)
    (hs : ∀ vs news, Alls Vs vs → c.I P n1 news → Spec c.w f sz news vs fun r news' => V r ∧ c.I P n2 news') : Ev c env P l (.Call (.Name fn p1) (e :: es) [] p2) V n n2 := by with_unfolding_all exact ei_call hfe hp hz hu ha hs
theorem sp_gave {f : Addr} {sz d : Nat} {vs : List Value} {v : Int} {news : Led} (i : c.I P n news) (hn : Nat.ble n 1000 = true) (h : ∀ ts ws k, WO c.w c.b ts ws k c.W c.wd c.ta c.tb c.so news → k ≤ 991000 → Spec c.w f sz news vs (Gave c.w c.b ts ws (k + d) news v)) : Spec c.w f sz news vs fun r n' => isI v r ∧ c.I P (n + d) n' :=
  let ⟨ts, ws, k, hw, hk⟩ := i.w
  (h ts ws k hw (Nat.le_trans hk.1 (Nat.add_le_add c.hc0 (Nat.le_of_ble_eq_true hn)))).mono fun _ _ ⟨tk, ts', ws', hr, fb, h1, h2, hkp⟩ =>
    ⟨⟨tk, hr⟩, ⟨ts', ws', k + d, hw.next fb h1 h2 hkp, Nat.le_trans (Nat.add_le_add_right hk.1 d) (Nat.le_of_eq (Nat.add_assoc _ _ _)), hk.2.1.trans h1, hk.2.2.trans h2⟩, fun p hp => ⟨(i.2 p hp).1, hkp p (i.2 p hp).2 (i.2 p hp).1⟩⟩
theorem sp_of2 {op : Str} {x y : Int} (hop : Two op) (hx : InR c.wd x) (hy : InR c.wd y) (hn : Nat.ble n 1000 = true) :
    ∀ vs news, Alls [isR c.W, isS op, isI x, isI y] vs → c.I P n news → Spec c.w 783 20 news vs fun r news' => isI (two op x y c.wd) r ∧ c.I P (n + 1) news' := fun _ news hV i =>
  pt_elim (ps := [.R c.W, .S op, .I x, .I y]) (P := fun vs => Spec c.w 783 20 news vs _) (fun _ _ _ => sp_gave i hn fun _ _ _ hw hk => spec_of2 c.w hw (Nat.lt_of_le_of_lt hk (Nat.le_of_ble_eq_true rfl)) hx.1 hx.2 hy.1 hy.2 hop) hV
theorem sp_of1 {op : Str} {x : Int} (hop : op = Str.ofString "bvnot" ∨ op = Str.ofString "bvneg") (hx : InR c.wd x) (hn : Nat.ble n 1000 = true) :
    ∀ vs news, Alls [isR c.W, isS op, isI x] vs → c.I P n news → Spec c.w 783 20 news vs fun r news' => isI (one op x c.wd) r ∧ c.I P (n + 1) news' := fun _ news hV i =>
  pt_elim (ps := [.R c.W, .S op, .I x]) (P := fun vs => Spec c.w 783 20 news vs _) (fun _ _ => sp_gave i hn fun _ _ _ hw hk => spec_of1 c.w hw (Nat.lt_of_le_of_lt hk (Nat.le_of_ble_eq_true rfl)) hx.1 hx.2 hop) hV
end

section
variable {S : Scope} {c : Cx S} {env : Env} {P : Addr × Obj → Prop} {l l' : FL} {n n1 n2 n3 : Nat}
theorem sr_part {w : World} {b : BA} {ts : List Term} {ws : List Int} {c : Nat} {news : Led} {W : Addr} {wd ta tb so : Int} {c' : Fx w S 29} {d : Nat} {body : List Stmt} (hw : WO w b ts ws c W wd ta tb so news) (hc : c ≤ 990000) (h : Ex ⟨w, c', b, W, wd, ta, tb, so, c, hc, ts, ws⟩ (fun p => p ∈ news ∧ Keep b p) l body (isB true) 0 d) : Sr c' (At news) l body (TrueW w b (c + d) W wd ta tb so news) := by with_unfolding_all exact sr_pre (sr_mono h fun _ _ j => trueW_of j.2 j.1) fun nw e => by rw [show nw = news from e]; exact I_start hw
theorem ex_set {x : Str} {p1 p2 : Pos} {e : PySem.Expr} {ss : List Stmt} {U V : Value → Prop} (hn : swapsWith e (some (.Name x p1)) p2.line c.env = pure false) (hx : c.env.kindOf x = some .local) (h : Ev c c.env P l e U n n1) (hs : Ex c P ((x, U) :: l) ss V n1 n2) :
    Ex c P l (.Assign [.Name x p1] e p2 :: ss) V n n2 := by with_unfolding_all exact si_set hn hx h hs
theorem ex_tup2 {x y : Str} {p1 p2 p3 p4 p5 : Pos} {k1 k2 : Nat} {e1 e2 : PySem.Expr} {ss : List Stmt} {U1 U2 V : Value → Prop} (hx : c.env.kindOf x = some .local) (hy : c.env.kindOf y = some .local)
    (hs1 : swapsWithSole [.Tuple [.Name x p1, .Name y p2] k1 p3] (.Tuple [e1, e2] k2 p4) p5.line c.env = pure false) (hw : swappedStores [.Tuple [.Name x p1, .Name y p2] k1 p3] (.Tuple [e1, e2] k2 p4) c.env = pure (some [x, y]))
    (h : EvL c c.env P l [e1, e2] [U1, U2] n n1) (hs : Ex c P ((x, U1) :: (y, U2) :: l) ss V n1 n2) : Ex c P l (.Assign [.Tuple [.Name x p1, .Name y p2] k1 p3] (.Tuple [e1, e2] k2 p4) p5 :: ss) V n n2 := by with_unfolding_all exact sr_tup2 hx hy hs1 hw h (fun _ _ i => i.cons) hs
theorem ex_ret {e : PySem.Expr} {p : Pos} {ss : List Stmt} {V : Value → Prop} (h : Ev c c.env P l e V n n1) : Ex c P l (.Return (some e) p :: ss) V n n1 := by with_unfolding_all exact si_ret h
theorem ex_ifF {t : PySem.Expr} {body ss : List Stmt} {p : Pos} {V : Value → Prop} (h : EvT c c.env P l t false n n1) (hs : Ex c P l ss V n1 n2) : Ex c P l (.If t body [] p :: ss) V n n2 := by with_unfolding_all exact sr_ifF h hs
theorem exn_setN {x : Str} {p1 p2 : Pos} {e : PySem.Expr} {ss : List Stmt} {U : Value → Prop} (hn : swapsWith e (some (.Name x p1)) p2.line c.env = pure false) (hx : c.env.kindOf x = some .local) (h : Ev c c.env P l e U n n1) (hs : ExN c P ((x, U) :: l) ss l' n1 n2) :
    ExN c P l (.Assign [.Name x p1] e p2 :: ss) l' n n2 := by with_unfolding_all exact si_set hn hx h hs
theorem exn_tup2N {x y : Str} {p1 p2 p3 p4 p5 : Pos} {k1 k2 : Nat} {e1 e2 : PySem.Expr} {ss : List Stmt} {U1 U2 : Value → Prop} (hx : c.env.kindOf x = some .local) (hy : c.env.kindOf y = some .local)
    (hs1 : swapsWithSole [.Tuple [.Name x p1, .Name y p2] k1 p3] (.Tuple [e1, e2] k2 p4) p5.line c.env = pure false) (hw : swappedStores [.Tuple [.Name x p1, .Name y p2] k1 p3] (.Tuple [e1, e2] k2 p4) c.env = pure (some [x, y]))
    (h : EvL c c.env P l [e1, e2] [U1, U2] n n1) (hs : ExN c P ((x, U1) :: (y, U2) :: l) ss l' n1 n2) : ExN c P l (.Assign [.Tuple [.Name x p1, .Name y p2] k1 p3] (.Tuple [e1, e2] k2 p4) p5 :: ss) l' n n2 := by with_unfolding_all exact sr_tup2 hx hy hs1 hw h (fun _ _ i => i.cons) hs
theorem exn_ifFN {t : PySem.Expr} {body ss : List Stmt} {p : Pos} (h : EvT c c.env P l t false n n1) (hs : ExN c P l ss l' n1 n2) : ExN c P l (.If t body [] p :: ss) l' n n2 := by with_unfolding_all exact sr_ifF h hs
theorem exn_nil (h : ∀ m, FOk l m → FOk l' m) : ExN c P l [] l' n n := by with_unfolding_all exact sf_nil (fun _ i => i) h
theorem evt_or_nil {p : Pos} : EvT c env P l (.BoolOp .Or [] p) false n n := by with_unfolding_all exact ti_or_nil
theorem evt_or {a : PySem.Expr} {rest : List PySem.Expr} {p : Pos} (h : EvT c env P l a false n n1) (hs : EvT c env P l (.BoolOp .Or rest p) false n1 n2) : EvT c env P l (.BoolOp .Or (a :: rest) p) false n n2 := by with_unfolding_all exact ti_or h hs
theorem evt_ne {a b : PySem.Expr} {p : Pos} {i j : Int} (ha : Ev c env P l a (isI i) n n1) (hb : Ev c env P l b (isI j) n1 n2) (e : i = j) : EvT c env P l (.Compare a [.NotEq] [b] p) false n n2 := by with_unfolding_all exact ti_to (ti_neI ha hb) (by rw [e]; exact bne_self_eq_false _)
theorem ev_eqT {a b : PySem.Expr} {p : Pos} {i j : Int} (ha : Ev c env P l a (isI i) n n1) (hb : Ev c env P l b (isI j) n1 n2) (e : i = j) : Ev c env P l (.Compare a [.Eq] [b] p) (isB true) n n2 := by
  with_unfolding_all
    exact ei_cmp (marks_of rfl) ha hb fun u v s m news Q E hu hv F N _ ret => by
      obtain ⟨t1, rfl⟩ := hu
      obtain ⟨t2, rfl⟩ := hv
      refine eq_int ?_
      rw [e, beq_self_eq_true]
      exact ret _
theorem ev_and_one {op : BoolOp} {e : PySem.Expr} {p : Pos} {V : Value → Prop} (h : Ev c env P l e V n n1) : Ev c env P l (.BoolOp op [e] p) V n n1 := by with_unfolding_all exact fun m s news Q E fo F N I ret => BoolOp_one (h m s news Q E fo F N I ret)
theorem ev_and {a b : PySem.Expr} {rest : List PySem.Expr} {p : Pos} {V : Value → Prop} (h : Ev c env P l a (isB true) n n1) (hs : Ev c env P l (.BoolOp .And (b :: rest) p) V n1 n2) : Ev c env P l (.BoolOp .And (a :: b :: rest) p) V n n2 := by
  with_unfolding_all
    exact fun m s news Q E fo F N I ret =>
      BoolOp_and (h m s news _ E fo F N I fun u news' h' tk' F' N' hu => by
        obtain rfl : u = .bool true := hu.1
        exact wpAny_truthy_bool (hs m _ news' Q E fo F' N' hu.2 ret))
theorem ev_add {a b : PySem.Expr} {p : Pos} {i j : Int} (ha : Ev c env P l a (isI i) n n1) (hb : Ev c env P l b (isI j) n1 n2) : Ev c env P l (.BinOp a .Add b p) (isI (i + j)) n n2 := by with_unfolding_all exact ei_add ha hb
theorem ev_sub {a b : PySem.Expr} {p : Pos} {i j : Int} (ha : Ev c env P l a (isI i) n n1) (hb : Ev c env P l b (isI j) n1 n2) : Ev c env P l (.BinOp a .Sub b p) (isI (i - j)) n n2 := by with_unfolding_all exact ei_sub ha hb
theorem ev_ifEq {a b e1 e2 : PySem.Expr} {p p2 : Pos} {i j u v : Int} (ha : Ev c env P l a (isI i) n n) (hb : Ev c env P l b (isI j) n n) (h1 : Ev c env P l e1 (isI u) n n) (h2 : Ev c env P l e2 (isI v) n n) : Ev c env P l (.IfExp (.Compare a [.Eq] [b] p) e1 e2 p2) (isI (if i = j then u else v)) n n := by with_unfolding_all exact ei_if (ti_eqI ha hb) (fun q => by rw [if_pos (beq_iff_eq.mp q)]; exact h1) fun q => by rw [if_neg (beq_eq_false_iff_ne.mp q)]; exact h2
theorem ev_pow2 {a b : PySem.Expr} {p : Pos} {j : Int} (ha : Ev c env P l a (isI 2) n n1) (hb : Ev c env P l b (isI j) n1 n2) (h0 : 0 ≤ j) (h1 : j ≤ 150) : Ev c env P l (.BinOp a .Pow b p) (isI (2 ^ j.toNat)) n n2 := by with_unfolding_all exact ei_pow ha hb h0 h1 (by decide)
variable {e1 e2 : PySem.Expr} {x y : Int} {op : Str} {p1 p2 p3 p4 : Pos} {k : Nat}
theorem gl_of : nsIn (kF c.w.params) mainGlobals "_law_of" = some (some (.ref 783)) := by kernel_rfl
theorem kp_of : keepIn (kF c.w.params) (.ref 783) = true := by kernel_rfl
theorem ev_of2 (hf : Ev c env P l (.Name (Str.ofString "_law_of") p1) (isR 783) n n) (hw : Ev c env P l (.Name (Str.ofString "world") p2) (isR c.W) n n) (hu : [e1, e2].all unstarred = true)
    (h1 : Ev c env P l e1 (isI x) n n1) (r1 : InR c.wd x) (h2 : Ev c env P l e2 (isI y) n1 n2) (r2 : InR c.wd y) (hop : Two op) (hn : Nat.ble n2 1000 = true) :
    Ev c env P l (.Call (.Name (Str.ofString "_law_of") p1) [.Name (Str.ofString "world") p2, .Constant (.str op) k p3, e1, e2] [] p4) (isI (two op x y c.wd)) n (n2 + 1) := by with_unfolding_all exact ev_call (sz := 20) hf kp_of rfl hu (evl_cons rfl hw (evl_cons rfl ev_str (evl_cons (Bool.and_eq_true_iff.mp hu).1 h1 (evl_cons (Bool.and_eq_true_iff.mp (Bool.and_eq_true_iff.mp hu).2).1 h2 evl_nil)))) (sp_of2 hop r1 r2 hn)
theorem ev_of1 (hf : Ev c env P l (.Name (Str.ofString "_law_of") p1) (isR 783) n n) (hw : Ev c env P l (.Name (Str.ofString "world") p2) (isR c.W) n n) (hu : unstarred e1 = true)
    (h1 : Ev c env P l e1 (isI x) n n1) (r1 : InR c.wd x) (hop : op = Str.ofString "bvnot" ∨ op = Str.ofString "bvneg") (hn : Nat.ble n1 1000 = true) :
    Ev c env P l (.Call (.Name (Str.ofString "_law_of") p1) [.Name (Str.ofString "world") p2, .Constant (.str op) k p3, e1] [] p4) (isI (one op x c.wd)) n (n1 + 1) := by with_unfolding_all exact ev_call (sz := 20) hf kp_of rfl (Bool.and_eq_true_iff.mpr ⟨rfl, Bool.and_eq_true_iff.mpr ⟨rfl, Bool.and_eq_true_iff.mpr ⟨hu, rfl⟩⟩⟩) (evl_cons rfl hw (evl_cons rfl ev_str (evl_cons hu h1 evl_nil))) (sp_of1 hop r1 hn)
theorem ev_ofN (hx : c.env.kindOf (Str.ofString "_law_of") = some .globalImplicit) : Ev c c.env P l (.Name (Str.ofString "_law_of") p1) (isR 783) n n := by with_unfolding_all exact ev_glob hx (by decide) gl_of
theorem two_in {wd x y : Int} (hop : Two op) (hx : InR wd x) (hy : InR wd y) : InR wd (two op x y wd) := two_range hx.1 hx.2 hy.1 hy.2 hop
theorem one_in {wd x : Int} (hop : op = Str.ofString "bvnot" ∨ op = Str.ofString "bvneg") (hx : InR wd x) : InR wd (one op x wd) := one_range hx.1 hx.2 hop
theorem ex_le {ss : List Stmt} {V : Value → Prop} (h : Ex c P l ss V n n1) (q : Nat.ble n1 n2 = true) : Ex c P l ss V n n2 := by with_unfolding_all exact sr_mono h fun _ _ j => ⟨j.1, j.2.le q⟩
end

noncomputable abbrev S797 : Scope := scopeOf (pickS 43)
theorem tAnd : Two (Str.ofString "bvand") := .inl rfl
theorem tOr : Two (Str.ofString "bvor") := .inr (.inl rfl)
theorem tXor : Two (Str.ofString "bvxor") := .inr (.inr (.inl rfl))
theorem tAdd : Two (Str.ofString "bvadd") := .inr (.inr (.inr (.inl rfl)))
theorem tSub : Two (Str.ofString "bvsub") := .inr (.inr (.inr (.inr (.inl rfl))))
theorem tMul : Two (Str.ofString "bvmul") := .inr (.inr (.inr (.inr (.inr (.inl rfl)))))
theorem tShl : Two (Str.ofString "bvshl") := .inr (.inr (.inr (.inr (.inr (.inr (.inl rfl))))))
theorem tLshr : Two (Str.ofString "bvlshr") := .inr (.inr (.inr (.inr (.inr (.inr (.inr (.inl rfl)))))))
theorem tUdiv : Two (Str.ofString "bvudiv") := .inr (.inr (.inr (.inr (.inr (.inr (.inr (.inr (.inl rfl))))))))
theorem tUrem : Two (Str.ofString "bvurem") := .inr (.inr (.inr (.inr (.inr (.inr (.inr (.inr (.inr rfl))))))))
theorem oNot : Str.ofString "bvnot" = Str.ofString "bvnot" ∨ Str.ofString "bvnot" = Str.ofString "bvneg" := .inl rfl
theorem oNeg : Str.ofString "bvneg" = Str.ofString "bvnot" ∨ Str.ofString "bvneg" = Str.ofString "bvneg" := .inr rfl
theorem inr0 {wd : Int} : InR wd 0 := ⟨Int.le_refl 0, PySem.W.kbt_pos _⟩
theorem inr1 {wd : Int} (h : 1 ≤ wd) : InR wd 1 := ⟨by decide, by
  have h : (2 : Nat) ^ 1 ≤ 2 ^ wd.toNat := pow_mono2 (by omega)
  have h2 : ((2 ^ wd.toNat : Nat) : Int) = 2 ^ wd.toNat := by simp
  omega⟩
theorem ev_widthW {S : Scope} {c : Cx S} {env : Env} {P : Addr × Obj → Prop} {l : FL} {n k : Nat} {p1 p2 p3 : Pos} (hw : Ev c env P l (.Name (Str.ofString "world") p1) (isR c.W) n n) : Ev c env P l (.Subscript (.Name (Str.ofString "world") p1) (.Constant (.str (Str.ofString "width")) k p2) p3) (isI c.wd) n n := by with_unfolding_all exact ei_wWidth hw fun _ i => i.dict
theorem ev_wBank {S : Scope} {c : Cx S} {env : Env} {P : Addr × Obj → Prop} {l : FL} {n k : Nat} {p1 p2 p3 : Pos} (hw : Ev c env P l (.Name (Str.ofString "world") p1) (isR c.W) n n) : Ev c env P l (.Subscript (.Name (Str.ofString "world") p1) (.Constant (.str (Str.ofString "bank")) k p2) p3) (isR c.b.M.B) n n := by with_unfolding_all exact ei_wBank hw fun _ i => i.dict
theorem ev_wA {S : Scope} {c : Cx S} {env : Env} {P : Addr × Obj → Prop} {l : FL} {n k : Nat} {p1 p2 p3 : Pos} (hw : Ev c env P l (.Name (Str.ofString "world") p1) (isR c.W) n n) : Ev c env P l (.Subscript (.Name (Str.ofString "world") p1) (.Constant (.str (Str.ofString "a")) k p2) p3) (isI c.ta) n n := by with_unfolding_all exact ei_wA hw fun _ i => i.dict
theorem ev_wB {S : Scope} {c : Cx S} {env : Env} {P : Addr × Obj → Prop} {l : FL} {n k : Nat} {p1 p2 p3 : Pos} (hw : Ev c env P l (.Name (Str.ofString "world") p1) (isR c.W) n n) : Ev c env P l (.Subscript (.Name (Str.ofString "world") p1) (.Constant (.str (Str.ofString "b")) k p2) p3) (isI c.tb) n n := by with_unfolding_all exact ei_wB hw fun _ i => i.dict
theorem ev_lastW {S : Scope} {c : Cx S} {env : Env} {P : Addr × Obj → Prop} {l : FL} {n k : Nat} {k1 k2 : Tok} {p1 p2 p3 p4 p5 p6 p7 : Pos} (hw : Ev c env P l (.Name (Str.ofString "world") p1) (isR c.W) n n) (w1 : 1 ≤ c.wd) (w2 : c.wd ≤ 70) : Ev c env P l (.BinOp (.BinOp (.Constant (.int 2) k1 p4) .Pow (.Subscript (.Name (Str.ofString "world") p1) (.Constant (.str (Str.ofString "width")) k p2) p3) p5) .Sub (.Constant (.int 1) k2 p6) p7) (isI (2 ^ c.wd.toNat - 1)) n n := by with_unfolding_all exact ev_sub (ev_pow2 ev_int (ev_widthW hw) (by omega) (by omega)) ev_int
theorem rowsSumsE : True := by
  k_with "two" => with_reducible (first | exact tAdd | exact tSub | exact tMul | exact tUdiv | exact tUrem | exact tShl | exact tLshr | exact tAnd | exact tOr | exact tXor)
  k_with "one" => with_reducible (first | exact oNot | exact oNeg)
  k_with "inr" => (first | with_reducible assumption | with_reducible exact inr0 | with_reducible exact inr1 (by assumption) | ((with_reducible apply two_in); (k_extra "two"); (k_extra "inr"); (k_extra "inr")) | ((with_reducible apply one_in); (k_extra "one"); (k_extra "inr")))
  k_with "eq" => (first | with_reducible rfl | with_reducible assumption | with_reducible exact Eq.symm (by assumption))
  k_with "nm" => (first | ((with_reducible apply ev_name); (k_dflt rfl); (kernel_rfl); (decide)) | ((with_reducible apply ev_ofN); (kernel_rfl)))
  k_with "ev" => (first | with_reducible exact ev_int | with_reducible exact ev_str | (k_extra "nm") | ((with_reducible apply ev_of2); (k_extra "nm"); (k_extra "nm"); (k_dflt rfl); (k_extra "ev"); (k_extra "inr"); (k_extra "ev"); (k_extra "inr"); (k_extra "two"); (rfl)) | ((with_reducible apply ev_of1); (k_extra "nm"); (k_extra "nm"); (k_dflt rfl); (k_extra "ev"); (k_extra "inr"); (k_extra "one"); (rfl)) | ((with_reducible apply ev_widthW); (k_extra "nm")) | ((with_reducible apply ev_lastW); (k_extra "nm"); (assumption); (assumption)) | ((with_reducible apply ev_ifEq); (k_extra "ev"); (k_extra "ev"); (k_extra "ev"); (k_extra "ev")) | ((with_reducible apply ev_add); (k_extra "ev"); (k_extra "ev")) | ((with_reducible apply ev_sub); (k_extra "ev"); (k_extra "ev")) | ((with_reducible apply ev_eqT); (k_extra "ev"); (k_extra "ev"); (k_extra "eq")) | ((with_reducible apply ev_and); (k_extra "ev"); (k_extra "ev")) | ((with_reducible apply ev_and_one); (k_extra "ev")))
  k_with "evl" => (first | with_reducible exact evl_nil | ((with_reducible apply evl_cons); (k_dflt rfl); (k_extra "ev"); (k_extra "evl")))
  k_with "evt" => (first | with_reducible exact evt_or_nil | ((with_reducible apply evt_or); (k_extra "evt"); (k_extra "evt")) | ((with_reducible apply evt_ne); (k_extra "ev"); (k_extra "ev"); (k_extra "eq")))
  k_with "ex" => (first | ((with_reducible apply ex_tup2); (kernel_rfl); (kernel_rfl); (rfl); (rfl); (k_extra "evl"); (k_extra "ex")) | ((with_reducible apply ex_set); (rfl); (kernel_rfl); (k_extra "ev"); (k_extra "ex")) | ((with_reducible apply ex_ifF); (k_extra "evt"); (k_extra "ex")) | ((with_reducible apply ex_ret); (k_extra "ev")))
  trivial
section
theorem sums_ex {c : Cx S797} {P : Addr × Obj → Prop} {x y z : Int} (hx : InR c.wd x) (hy : InR c.wd y) (hz : InR c.wd z) (w1 : 1 ≤ c.wd) (w2 : c.wd ≤ 70) :
    Ex c P [(Str.ofString "z", isI z), (Str.ofString "y", isI y), (Str.ofString "x", isI x), (Str.ofString "world", isR c.W)] (bodyOf (pickS 43)) (isB true) 0 60 := by
  have hp := PySem.W.kbt_pos c.wd.toNat
  have e1 : two (Str.ofString "bvadd") x y c.wd = two (Str.ofString "bvadd") y x c.wd := by rw [two_bvadd, two_bvadd, Int.add_comm]
  have e2 : two (Str.ofString "bvadd") (two (Str.ofString "bvadd") x y c.wd) z c.wd = two (Str.ofString "bvadd") x (two (Str.ofString "bvadd") y z c.wd) c.wd := by rw [two_bvadd, two_bvadd, two_bvadd, two_bvadd]; exact l_assoc
  have e3 : two (Str.ofString "bvadd") x 0 c.wd = x := by rw [two_bvadd, Int.add_zero]; exact l_small hx.1 hx.2
  have e4 : two (Str.ofString "bvadd") x 1 c.wd = if x = 2 ^ c.wd.toNat - 1 then 0 else x + 1 := by rw [two_bvadd, l_succ hp hx.1 hx.2]
  have e5 : two (Str.ofString "bvadd") x (one (Str.ofString "bvnot") x c.wd) c.wd = 2 ^ c.wd.toNat - 1 := by rw [two_bvadd, one_bvnot]; exact l_not hp
  have e6 : one (Str.ofString "bvneg") x c.wd = two (Str.ofString "bvadd") (one (Str.ofString "bvnot") x c.wd) 1 c.wd := by rw [two_bvadd, one_bvnot, one_bvneg]; exact l_neg
  have e7 : two (Str.ofString "bvsub") (two (Str.ofString "bvadd") x y c.wd) y c.wd = x := by rw [two_bvsub, two_bvadd]; exact l_sub hx.1 hx.2
  have e8 : two (Str.ofString "bvadd") (two (Str.ofString "bvsub") x y c.wd) y c.wd = x := by rw [two_bvadd, two_bvsub]; exact l_add hx.1 hx.2
  apply ex_le
  · (apply ex_tup2); (kernel_rfl); (kernel_rfl); (rfl); (rfl); (k_extra "evl"); (k_extra "ex")
  · rfl
end

theorem spec_sums (w : World) {b : BA} {ts : List Term} {ws : List Int} {c : Nat} {news : Led} {W : Addr} {wd ta tb so : Int} {x y z : Int} {t1 t2 t3 : Tok} (hw : WO w b ts ws c W wd ta tb so news) (hc : c ≤ 900000) (hx0 : 0 ≤ x) (hx1 : x < 2 ^ wd.toNat) (hy0 : 0 ≤ y) (hy1 : y < 2 ^ wd.toNat) (hz0 : 0 ≤ z) (hz1 : z < 2 ^ wd.toNat) :
   Spec w 797 30 news [.ref W, .int x t1, .int y t2, .int z t3] (TrueW w b (c + 60) W wd ta tb so news) :=
  spec_def (o := o797) (binds := [(Str.ofString "world", Value.ref W), (Str.ofString "x", .int x t1), (Str.ofString "y", .int y t2), (Str.ofString "z", .int z t3)]) (by kernel_rfl) rfl (by kernel_rfl) rfl (locs rfl) rfl rfl rfl (by decide) fun _ _ => sr_part hw (Nat.le_trans hc (Nat.le_of_ble_eq_true rfl)) (sums_ex ⟨hx0, hx1⟩ ⟨hy0, hy1⟩ ⟨hz0, hz1⟩ hw.w1 hw.w2)
theorem less_of {h₀ h : Heap} {L I : Addr} {T : Led} {it : Obj} {n : String} (N : News h₀ L h T) (hI : (I, it) ∈ T) (hc : it.cls = .type n) (hn : Value.type n ≠ .type "tuple") {W : Nat} (hW : @LT.lt Nat _ W I) {p : Addr × Obj} (hp : p ∈ T) (q : IsT p.2 ∨ @LE.le Nat _ p.1 W) : p ∈ less I T := by
  refine mem_less.mpr ⟨hp, fun e => ?_⟩
  rcases q with q | q
  · have h1 := (N p hp).1
    have h2 := (N _ hI).1
    have e' : p.1 = I := e
    rw [e'] at h1
    have h3 := Option.some.inj (h1.symm.trans h2)
    rw [h3] at q
    exact hn (hc.symm.trans q.1)
  · exact Nat.lt_irrefl _ (Nat.lt_of_le_of_lt (e ▸ q) hW)
section
variable {prog : Program} {w : World} {A : Around} {E : Value → Shared → Prop} {s : Shared} {env : Env} {h₀ : Heap} {target : Expr} {body : List Stmt} {Q : Flow → Shared → Prop}
theorem UnrPostW.mono {L : Addr} {s₁ : Shared} {its : Led} {rest rest' : (Str → Option Value) → Led → Prop} {f : Flow} {s₂ : Shared} (hr : ∀ m n, rest m n → rest' m n) (h : UnrPostW h₀ L s₁ its rest Q f s₂) : UnrPostW h₀ L s₁ its rest' Q f s₂ := by
  cases f with
  | ret v => exact h
  | brk => exact h
  | cont => exact let ⟨h', tk, m', n', e, F, N, o, r⟩ := h; ⟨h', tk, m', n', e, F, N, o, hr _ _ r⟩
  | next => exact let ⟨h', tk, m', n', e, F, N, o, r⟩ := h; ⟨h', tk, m', n', e, F, N, o, hr _ _ r⟩
theorem items_inv {I : Addr} {keep : Led} (J : List Value → (Str → Option Value) → Led → Prop) (hk : ∀ r m n, J r m n → SubL keep n)
   (step : ∀ v r m n h tk it, J (v :: r) m n → Fr h₀ env.locals h m → it.cls = .type "tuple_iterator" → News h₀ env.locals h ((I, it) :: n) →
     wpAny (model prog w) A (assign target env v) (fun _ s₂ => wpAny (model prog w) A (execs body env) (UnrPostW h₀ env.locals { s with heap := h, toks := tk } [(I, it)] (J r) Q) E s₂) E { s with heap := h, toks := tk })
   (fin : ∀ m n h tk, J [] m n → Fr h₀ env.locals h m → News h₀ env.locals h n → Q .next { s with heap := h, toks := tk }) :
   ∀ vs m n, J vs m n → ItemsRest prog w A E h₀ env target body Q s [(I, "tuple_iterator")] keep (vs.map .val) m n := by
  intro vs
  induction vs with
  | nil => exact fun m n hJ => ItemsRest.zero fun h tk F N => fin m n h tk hJ F N
  | cons v r ih =>
    intro m n hJ
    refine ItemsRest.val fun h tk F => AllObj.cons fun it hc => AllObj.nil fun N => ?_
    exact wpAny_mono (step v r m n h tk it hJ F hc N) (fun _ s₂ h₂ => wpAny_mono h₂ (fun f s₃ h₃ => UnrPostW.mono (fun m' n' j => ⟨hk r m' n' j, ih m' n' j⟩) h₃) fun _ _ e => e) fun _ _ e => e
end

abbrev Cx.up {S : Scope} (c : Cx S) (k : Nat) (h : c.c0 + k ≤ 990000) : Cx S := { c with c0 := c.c0 + k, hc0 := h }
theorem Cx.I.up {S : Scope} {c : Cx S} {P : Addr × Obj → Prop} {k n : Nat} {news : Led} {h : c.c0 + k ≤ 990000} (x : c.I P (k + n) news) : (c.up k h).I P n news :=
  ⟨let ⟨ts, ws, j, hw, hj⟩ := x.w; ⟨ts, ws, j, hw, (show j ≤ c.c0 + k + n by omega), hj.2⟩, x.2⟩
theorem Cx.I.down {S : Scope} {c : Cx S} {P : Addr × Obj → Prop} {k n : Nat} {news : Led} {h : c.c0 + k ≤ 990000} (x : (c.up k h).I P n news) : c.I P (k + n) news :=
  ⟨let ⟨ts, ws, j, hw, hj⟩ := x.w; ⟨ts, ws, j, hw, by have : j ≤ c.c0 + k + n := hj.1; omega, hj.2⟩, x.2⟩
def AllV (V : Value → Prop) : List Value → Prop
  | [] => True
  | v :: r => V v ∧ AllV V r
theorem AllV.of {V : Value → Prop} : ∀ {Vs : List (Value → Prop)} {vs : List Value}, Alls Vs vs → (∀ U ∈ Vs, ∀ v, U v → V v) → AllV V vs
  | [], [], _, _ => trivial
  | [], _ :: _, h, _ => h.elim
  | _ :: _, [], h, _ => h.elim
  | U :: Vs, v :: vs, ⟨h1, h2⟩, k => ⟨k U (.head _) v h1, AllV.of h2 fun U' hU => k U' (.tail _ hU)⟩
section
variable {S : Scope} {c : Cx S} {env : Env} {P : Addr × Obj → Prop} {l : FL} {n n1 n2 n3 : Nat}
theorem ex_for {x : Str} {p1 p2 p3 : Pos} {k2 st : Nat} {es : List PySem.Expr} {Vs : List (Value → Prop)} {U V : Value → Prop} {body ss : List Stmt} (hx : c.env.kindOf x = some .local) (hlen : Nat.ble Vs.length 1000 = true)
    (h : EvL c c.env P l es Vs n n1) (hU : ∀ W ∈ Vs, ∀ v, W v → U v) (hn : c.c0 + n1 + st * Vs.length ≤ 990000)
    (hb : ∀ (P' : Addr × Obj → Prop) (k : Nat) (hk : c.c0 + k ≤ 990000), ExN (c.up k hk) P' ((x, U) :: l) body l 0 st)
    (hs : Ex c P l ss V (n1 + st * Vs.length) n2) (hfold : ∀ v, foldedSetIterable (.Tuple es k2 p2) c.env v = pure v) :
    Ex c P l (.For (.Name x p1) (.Tuple es k2 p2) body [] p3 :: ss) V n n2 := by
  with_unfolding_all
    exact fun m s news Q fo F N I ret => by
      refine wpAny_execs_cons (For_turns F (Tuple_ (h _ m s news _ _ fo F N I fun vs news' h' tk' F' N' hvs => ?_)) hfold PassesOwn.never)
      obtain ⟨hvs, I'⟩ := hvs
      have hlv : vs.length = Vs.length := alls_len hvs
      have hz : vs.length ≤ sizeLine := by
        have := Nat.le_of_ble_eq_true hlen
        have q : sizeLine = 16777216 := rfl
        omega
      refine kup_newTuple F' N' (fun D h2 F2 N2 l2 => ?_) hz
      refine iter_tupTurns (vs := vs) rfl F2 N2 (.head _) rfl rfl ?_
      intro I0 l1
      have I2 := I'.cons (e := (D, ({ cls := .type "tuple", data := .seq vs.toArray } : Obj)))
      obtain ⟨ts, ws, j, hw, hj⟩ := id I2.w
      obtain ⟨o', kvs', hm', _⟩ := hw.dict
      have hWI : @LT.lt Nat _ c.W I0 := l1 _ hm'
      have hVI : @LT.lt Nat _ c.b.V I0 := Nat.lt_trans hw.above hWI
      have hPI : ∀ p, P p → @Ne Nat p.1 I0 := fun p hp => Nat.ne_of_lt (l1 _ (I2.2 p hp).2)
      refine items_inv (fun r m' nw => FOk l m' ∧ c.I P (n1 + st * (Vs.length - r.length)) nw ∧ (∀ p ∈ nw, @Ne Nat p.1 I0) ∧ SubL [(D, ({ cls := .type "tuple", data := .seq vs.toArray } : Obj))] nw ∧ AllV U r ∧ r.length ≤ Vs.length) (fun r m' nw q => q.2.2.2.1) ?step ?fin _ _ _ ?zero
      case zero =>
        refine ⟨fo, ?_, fun p hp => Nat.ne_of_lt (l1 p hp), ⟨.head _, trivial⟩, AllV.of hvs hU, Nat.le_of_eq hlv⟩
        rw [hlv, Nat.sub_self]
        exact I2
      case fin =>
        rintro m' nw h' tk ⟨fo', I', _, _, _, _⟩ F' N'
        exact hs m' _ nw Q fo' F' N' I' ret
      case step =>
        rintro v r m' nw h' tk it ⟨fo', I', hoff, hsub, ⟨hv, hr⟩, hl⟩ F' hit N'
        have hl' : r.length + 1 ≤ Vs.length := hl
        have hkk : c.c0 + (n1 + st * (Vs.length - (r.length + 1))) ≤ 990000 := by
          have := Nat.mul_le_mul_left st (Nat.sub_le Vs.length (r.length + 1))
          omega
        refine assign_Name (storeX_L F' N' (fun h3 F3 N3 => ?_) c.fx.hk hx)
        refine hb (fun p => P p ∨ p = (I0, it) ∨ p = (D, ({ cls := .type "tuple", data := .seq vs.toArray } : Obj))) _ hkk _ _ _ _ (fo'.set hv) F3 N3 (Cx.I.up (n := 0) ⟨I'.cons.1, ?_⟩) ?_
        · rintro p (hp | rfl | rfl)
          · exact I'.cons.2 p hp
          · exact ⟨.inr (.inl hVI), .head _⟩
          · exact ⟨.inl rfl, .tail _ hsub.1⟩
        · intro f9 news9 h9 m9 tk9 F9 N9 r9
          obtain ⟨e9, fo9, I9⟩ := r9
          subst e9
          have I8 := I9.down
          have hmI := (I8.2 _ (.inr (.inl rfl))).2
          have hmD := (I8.2 _ (.inr (.inr rfl))).2
          have hDI : @Ne Nat D I0 := Nat.ne_of_lt (l1 (D, _) (.head _))
          have hc : n1 + st * (Vs.length - (r.length + 1)) + st = n1 + st * (Vs.length - r.length) := by
            have : Vs.length - r.length = Vs.length - (r.length + 1) + 1 := by omega
            rw [this, Nat.mul_succ]; omega
          refine ⟨h9, tk9, m9, less I0 news9, rfl, F9, fun p hp => ?_, fun p hp q hq => ?_, fo9, ⟨?_, fun p hp => ?_⟩, fun p hp => (mem_less.mp hp).2, ⟨mem_less.mpr ⟨hmD, hDI⟩, trivial⟩, hr, Nat.le_of_succ_le hl'⟩
          · rcases List.mem_cons.mp hp with rfl | hp
            · exact N9 _ hmI
            · exact N9 _ (mem_less.mp hp).1
          · rw [List.mem_singleton.mp hq]; exact (mem_less.mp hp).2
          · obtain ⟨ts, ws, j, hw, hj⟩ := I8.w
            exact ⟨ts, ws, j, hw.off fun p hp q => less_of N9 hmI hit (by simp) hWI hp q, by omega, hj.2⟩
          · have q := I8.2 p (.inl hp)
            exact ⟨q.1, mem_less.mpr ⟨q.2, hPI p hp⟩⟩
end

theorem div_facts {x d wd : Int} (hx0 : 0 ≤ x) (hx1 : x < 2 ^ wd.toNat) (hd0 : 0 ≤ d) :
   ((d = 0 ∧ two (Str.ofString "bvudiv") x d wd = 2 ^ wd.toNat - 1 ∧ two (Str.ofString "bvurem") x d wd = x) ∨ (0 < d ∧ two (Str.ofString "bvurem") x d wd < d ∧ two (Str.ofString "bvudiv") x d wd ≤ x)) ∧
   two (Str.ofString "bvadd") (two (Str.ofString "bvmul") (two (Str.ofString "bvudiv") x d wd) d wd) (two (Str.ofString "bvurem") x d wd) wd = x := by
  rw [two_bvudiv, two_bvurem, two_bvmul, two_bvadd]
  refine ⟨?_, l_divrest hd0 hx0 hx1⟩
  by_cases q : d = 0
  · exact .inl ⟨q, by rw [if_pos q], by rw [if_pos q]⟩
  · have p : 0 < d := by omega
    exact .inr ⟨p, by rw [if_neg q]; exact Int.emod_lt_of_pos _ p, by rw [if_neg q]; exact (div_le x d hx0 p).2⟩
section
variable {S : Scope} {c : Cx S} {env : Env} {P : Addr × Obj → Prop} {l : FL} {n n1 n2 n3 : Nat}
theorem evt_eqF {a b : PySem.Expr} {p : Pos} {i j : Int} (ha : Ev c env P l a (isI i) n n1) (hb : Ev c env P l b (isI j) n1 n2) (e : ¬ i = j) : EvT c env P l (.Compare a [.Eq] [b] p) false n n2 := by with_unfolding_all exact ti_to (ti_eqI ha hb) (beq_eq_false_iff_ne.mpr e)
theorem evt_eqT {a b : PySem.Expr} {p : Pos} {i j : Int} (ha : Ev c env P l a (isI i) n n1) (hb : Ev c env P l b (isI j) n1 n2) (e : i = j) : EvT c env P l (.Compare a [.Eq] [b] p) true n n2 := by with_unfolding_all exact ti_to (ti_eqI ha hb) (beq_iff_eq.mpr e)
theorem evt_gtF {a b : PySem.Expr} {p : Pos} {i j : Int} (ha : Ev c env P l a (isI i) n n1) (hb : Ev c env P l b (isI j) n1 n2) (e : ¬ i > j) : EvT c env P l (.Compare a [.Gt] [b] p) false n n2 := by with_unfolding_all exact ti_to (ti_gtI ha hb) (decide_eq_false e)
theorem evt_gtT {a b : PySem.Expr} {p : Pos} {i j : Int} (ha : Ev c env P l a (isI i) n n1) (hb : Ev c env P l b (isI j) n1 n2) (e : i > j) : EvT c env P l (.Compare a [.Gt] [b] p) true n n2 := by with_unfolding_all exact ti_to (ti_gtI ha hb) (decide_eq_true e)
theorem evt_geF {a b : PySem.Expr} {p : Pos} {i j : Int} (ha : Ev c env P l a (isI i) n n1) (hb : Ev c env P l b (isI j) n1 n2) (e : ¬ i ≥ j) : EvT c env P l (.Compare a [.GtE] [b] p) false n n2 := by with_unfolding_all exact ti_to (ti_geI ha hb) (decide_eq_false e)
theorem evt_andF {a : PySem.Expr} {rest : List PySem.Expr} {p : Pos} (h : EvT c env P l a false n n1) : EvT c env P l (.BoolOp .And (a :: rest) p) false n n1 := by with_unfolding_all exact ti_andF h
theorem evt_andT {a : PySem.Expr} {rest : List PySem.Expr} {p : Pos} {β : Bool} (h : EvT c env P l a true n n1) (hs : EvT c env P l (.BoolOp .And rest p) β n1 n2) : EvT c env P l (.BoolOp .And (a :: rest) p) β n n2 := by with_unfolding_all exact ti_andT h hs
theorem ev_true {k : Nat} {p : Pos} : Ev c env P l (.Constant (.bool true) k p) (isB true) n n := by with_unfolding_all exact fun m s news Q E fo F N I ret => wpAny_pure (ret _ news s.heap s.toks F N ⟨rfl, I⟩)
theorem exn_open {x : Str} {p : Int → Prop} {ss : List Stmt} {l' : FL} (h : ∀ d, p d → ExN c P ((x, isI d) :: l) ss l' n n1) : ExN c P ((x, fun u => ∃ d t, u = .int d t ∧ p d) :: l) ss l' n n1 := by
  with_unfolding_all
    exact fun m s news Q fo F N I ret => by
      obtain ⟨v, hv, d, t, rfl, hd⟩ := fo x _ (by rw [List.lookup_cons, beq_self_eq_true])
      refine h d hd m s news Q (fun y V hy => ?_) F N I ret
      rw [List.lookup_cons] at hy
      by_cases q : (y == x) = true
      · rw [q] at hy
        obtain rfl := Option.some.inj hy
        obtain rfl : y = x := beq_iff_eq.mp q
        exact ⟨_, hv, t, rfl⟩
      · rw [Bool.not_eq_true] at q
        rw [q] at hy
        exact fo y V (by rw [List.lookup_cons, q]; exact hy)
theorem exn_le {ss : List Stmt} {l' : FL} (h : ExN c P l ss l' n n1) (q : Nat.ble n1 n2 = true) : ExN c P l ss l' n n2 := by
  with_unfolding_all
    exact fun m s news Q fo F N I ret =>
      h m s news Q fo F N I fun f nw h' m' tk' F' N' r => ret f nw h' m' tk' F' N' ⟨r.1, r.2.1, r.2.2.le q⟩
theorem fok_skip {y : Str} {U : Value → Prop} {l : FL} {m : Str → Option Value} (h : FOk ((y, U) :: l) m) (q : l.lookup y = none) : FOk l m := fun x V hx => h x V (by
  rw [List.lookup_cons]
  by_cases e : (x == y) = true
  · obtain rfl : x = y := beq_iff_eq.mp e
    rw [q] at hx; cases hx
  · rw [Bool.not_eq_true] at e
    rw [e]; exact hx)
end
theorem rowsProdE : True := by
  k_with "exn" => (first | ((with_reducible apply exn_tup2N); (kernel_rfl); (kernel_rfl); (rfl); (rfl); (k_extra "evl"); (k_extra "exn")) | ((with_reducible apply exn_setN); (rfl); (kernel_rfl); (k_extra "ev"); (k_extra "exn")) | ((with_reducible apply exn_ifFN); (k_extra "evt"); (k_extra "exn")))
  trivial
noncomputable abbrev S804 : Scope := scopeOf (pickS 44)
section
theorem prods_ex {c : Cx S804} {P : Addr × Obj → Prop} {x y z : Int} (hx : InR c.wd x) (hy : InR c.wd y) (hz : InR c.wd z) (w1 : 1 ≤ c.wd) (w2 : c.wd ≤ 70) (hc : c.c0 ≤ 900000) :
    Ex c P [(Str.ofString "z", isI z), (Str.ofString "y", isI y), (Str.ofString "x", isI x), (Str.ofString "world", isR c.W)] (bodyOf (pickS 44)) (isB true) 0 60 := by
  have hp := PySem.W.kbt_pos c.wd.toNat
  have e1 : two (Str.ofString "bvmul") x (two (Str.ofString "bvadd") y z c.wd) c.wd = two (Str.ofString "bvadd") (two (Str.ofString "bvmul") x y c.wd) (two (Str.ofString "bvmul") x z c.wd) c.wd := by rw [two_bvmul, two_bvmul, two_bvmul, two_bvadd, two_bvadd]; exact l_dist
  have e2 : two (Str.ofString "bvmul") x 1 c.wd = x := by rw [two_bvmul, Int.mul_one]; exact l_small hx.1 hx.2
  have e3 : two (Str.ofString "bvmul") x 0 c.wd = 0 := by rw [two_bvmul, Int.mul_zero]; exact Int.zero_emod _
  have e4 : two (Str.ofString "bvmul") x y c.wd = two (Str.ofString "bvmul") y x c.wd := by rw [two_bvmul, two_bvmul, Int.mul_comm]
  apply ex_le
  · (apply ex_tup2); (kernel_rfl); (kernel_rfl); (rfl); (rfl); (k_extra "evl")
    (with_reducible apply ex_set); (rfl); (kernel_rfl); (k_extra "ev")
    (with_reducible apply ex_ifF); (k_extra "evt")
    (with_reducible apply ex_ifF); (k_extra "evt")
    apply ex_for (U := fun u => ∃ d t, u = .int d t ∧ InR c.wd d) (st := 4)
    · kernel_rfl
    rotate_left
    · k_extra "evl"
    · intro U hU v hv
      simp only [List.mem_cons, List.not_mem_nil, or_false] at hU
      rcases hU with rfl | rfl | rfl
      · obtain ⟨t, rfl⟩ := hv
        exact ⟨_, t, rfl, hy⟩
      · obtain ⟨t, rfl⟩ := hv
        exact ⟨_, t, rfl, hz⟩
      · obtain ⟨t, rfl⟩ := hv
        exact ⟨_, t, rfl, inr0⟩
    · show c.c0 + _ + 4 * 3 ≤ 990000
      omega
    · intro P' k hk9
      refine exn_open (p := InR c.wd) fun d hd => ?_
      have f9 := div_facts hx.1 hx.2 hd.1 (wd := c.wd)
      have hd : InR (c.up k hk9).wd d := hd
      have hx : InR (c.up k hk9).wd x := hx
      have f8 := f9.2
      apply exn_le
      · (with_reducible apply exn_tup2N); (kernel_rfl); (kernel_rfl); (rfl); (rfl); (k_extra "evl")
        (with_reducible apply exn_ifFN)
        · rcases f9.1 with ⟨h1, h2, h3⟩ | ⟨h1, h2, h3⟩
          · with_reducible apply evt_or
            · with_reducible apply evt_andT
              · (with_reducible apply evt_eqT); (k_extra "ev"); (k_extra "ev"); (exact h1)
              · with_reducible apply evt_andF
                k_extra "evt"
            · with_reducible apply evt_or
              · with_reducible apply evt_andF
                (with_reducible apply evt_gtF); (k_extra "ev"); (k_extra "ev"); (omega)
              · exact evt_or_nil
          · with_reducible apply evt_or
            · with_reducible apply evt_andF
              (with_reducible apply evt_eqF); (k_extra "ev"); (k_extra "ev"); (omega)
            · with_reducible apply evt_or
              · with_reducible apply evt_andT
                · (with_reducible apply evt_gtT); (k_extra "ev"); (k_extra "ev"); (omega)
                · with_reducible apply evt_andF
                  with_reducible apply evt_or
                  · (with_reducible apply evt_geF); (k_extra "ev"); (k_extra "ev"); (exact Int.not_le.mpr h2)
                  · with_reducible apply evt_or
                    · (with_reducible apply evt_gtF); (k_extra "ev"); (k_extra "ev"); (exact Int.not_lt.mpr h3)
                    · exact evt_or_nil
              · exact evt_or_nil
        (with_reducible apply exn_ifFN); (k_extra "evt")
        apply exn_nil
        exact fun m fo => fok_skip (fok_skip (fok_skip fo (by rfl)) (by rfl)) (by rfl)
      · rfl
    · (with_reducible apply ex_ret); exact ev_true
    · intro v; rfl
    · rfl
  · rfl
end
theorem spec_products (w : World) {b : BA} {ts : List Term} {ws : List Int} {c : Nat} {news : Led} {W : Addr} {wd ta tb so : Int} {x y z : Int} {t1 t2 t3 : Tok} (hw : WO w b ts ws c W wd ta tb so news) (hc : c ≤ 900000) (hx0 : 0 ≤ x) (hx1 : x < 2 ^ wd.toNat) (hy0 : 0 ≤ y) (hy1 : y < 2 ^ wd.toNat) (hz0 : 0 ≤ z) (hz1 : z < 2 ^ wd.toNat) :
   Spec w 804 30 news [.ref W, .int x t1, .int y t2, .int z t3] (TrueW w b (c + 60) W wd ta tb so news) :=
  spec_def (o := o804) (binds := [(Str.ofString "world", Value.ref W), (Str.ofString "x", .int x t1), (Str.ofString "y", .int y t2), (Str.ofString "z", .int z t3)]) (by kernel_rfl) rfl (by kernel_rfl) rfl (locs rfl) rfl rfl rfl (by decide) fun _ _ => sr_part hw (Nat.le_trans hc (Nat.le_of_ble_eq_true rfl)) (prods_ex ⟨hx0, hx1⟩ ⟨hy0, hy1⟩ ⟨hz0, hz1⟩ hw.w1 hw.w2 hc)
theorem off1_mem {D : Addr} : ∀ {l : Led}, LCg.Off1 D l → ∀ p ∈ l, @Ne Nat p.1 D
  | [], _, _, h => nomatch h
  | _ :: _, x, p, h => by
    rcases List.mem_cons.mp h with rfl | h
    · exact x.1
    · exact off1_mem x.2 p h
theorem out_cons {b : BA} {k : Nat} {ks : List Nat} {D : Addr} {o : Obj} {T : Led} (q : ∀ p ∈ T, @Ne Nat p.1 D) (h : (b.adr k, o) ∈ T) (hs : b.Out ks D) : b.Out (k :: ks) D := fun j hj => (List.mem_cons.mp hj).elim (fun e => e ▸ Ne.symm (q _ h)) (hs j)
theorem FB.offB {w : World} {b : BA} {ts : List Term} {ws : List Int} {c : Nat} {T : Led} {D : Addr} (h : FB w b ts ws c T) (o : ∀ p ∈ T, @Ne Nat p.1 D) : OffB b D :=
  let ⟨_, _, m1, _⟩ := h.names
  let ⟨_, _, m2, _⟩ := h.widths
  let ⟨_, _, m3, _⟩ := h.fns
  let ⟨_, _, m4, _⟩ := h.fas
  let ⟨_, _, m5, _⟩ := h.frs
  let ⟨_, _, _, m6, _⟩ := h.V
  let ⟨_, _, _, _, _, _, _, _, _, _, mb⟩ := h.terms
  out_cons (k := 2) o m1 (out_cons (k := 3) o m2 (out_cons (k := 4) o m3 (out_cons (k := 5) o m4 (out_cons (k := 6) o m5 (out_cons (k := 7) o mb.mops (out_cons (k := 8) o mb.margs (out_cons (k := 9) o mb.msorts (out_cons (k := 10) o mb.mdatas (out_cons (k := 11) o mb.mN (out_cons (k := 12) o m6 fun _ h => nomatch h))))))))))
theorem Ev.up {S : Scope} {c : Cx S} {k : Nat} {h : c.c0 + k ≤ 990000} {env : Env} {P : Addr × Obj → Prop} {l : FL} {e : PySem.Expr} {V : Value → Prop} {n n' : Nat} (x : Ev (c.up k h) env P l e V n n') : Ev c env P l e V (k + n) (k + n') := by with_unfolding_all exact eg_pre (eg_mono x fun _ _ j => ⟨j.1, j.2.down⟩) fun _ i => i.up
section
variable {S : Scope} {c : Cx S} {P P' : Addr × Obj → Prop} {l : FL} {n n1 n2 : Nat} {env : Env} {scope : Scope} {cl : List (Str × Addr)} {x : Str} {p : Pos} {V W : Value → Prop} {C : Addr} {oC : Obj} {m₂ : Str → Option Value} {elt : PySem.Expr} {st : Nat}
inductive CellIs (cl : List (Str × Addr)) (P : Addr × Obj → Prop) (x : Str) (V : Value → Prop) : Prop
  | mk (a : Addr) (o : Obj) (v : Value) (h1 : cl.lookup x = some a) (h2 : P (a, o)) (h3 : o.data = .cell (some v)) (h4 : V v) : CellIs cl P x V
theorem CellIs.mono (h : CellIs cl P x V) (q : ∀ p, P p → P' p) : CellIs cl P' x V := let ⟨a, o, v, h1, h2, h3, h4⟩ := h; ⟨a, o, v, h1, q _ h2, h3, h4⟩
theorem ev_cell (h : CellIs c.fx.cl P x V) (hx : c.env.kindOf x = some .cell) (hd : (x == ("__debug__" : Str)) = false) : Ev c c.env P l (.Name x p) V n n := by
  with_unfolding_all
    exact fun m s news Q E fo F N I ret =>
      let ⟨_, _, v, h1, h2, h3, h4⟩ := h
      nameX_C N h1 (I.2 _ h2).2 h3 (ret v news s.heap s.toks F N ⟨h4, I⟩) c.fx.hk hx hd
def EvC (c : Cx S) (P : Addr × Obj → Prop) (scope : Scope) (cl : List (Str × Addr)) (x : Str) (V : Value → Prop) (elt : PySem.Expr) (W : Value → Prop) (st : Nat) : Prop :=
  ∀ (k : Nat) (hk : c.c0 + k ≤ 990000) (P' : Addr × Obj → Prop) (C : Addr) (oC : Obj) (m₂ : Str → Option Value) (v : Value), (∀ p, P p → P' p) → P' (C, oC) → LCg.NsObj oC m₂ → m₂ x = some v → V v → Ev (c.up k hk) (compEnvC scope cl C c.env) P' [] elt W 0 st
theorem ev_own {v : Value} (hP : P (C, oC)) (hN : LCg.NsObj oC m₂) (hm : m₂ x = some v) (hV : V v) (hk : (compEnvC scope cl C env).scope.kind = .function) (hl : (compEnvC scope cl C env).kindOf x = some .local) (hd : (x == ("__debug__" : Str)) = false) : Ev c (compEnvC scope cl C env) P l (.Name x p) V n n := by
  with_unfolding_all
    exact fun m s news Q E fo F N I ret =>
      LCgL.ld_own N (I.2 _ hP).2 hN hm (ret v news s.heap s.toks F N ⟨hV, I⟩) hk hl hd
theorem ev_globC {f : Addr} {fn : Str} (hg : env.globals = mainGlobals) (hk : (compEnvC scope cl C env).scope.kind = .function) (hx : (compEnvC scope cl C env).kindOf fn = some .globalImplicit) (hd : (fn == ("__debug__" : Str)) = false) (hf : nsIn (kF c.w.params) mainGlobals fn = some (some (.ref f))) : Ev c (compEnvC scope cl C env) P l (.Name fn p) (isR f) n n := by
  with_unfolding_all
    exact fun m s news Q E fo F N I ret =>
      LCgL.ld_global F c.fx.X c.fx.T hf (ret _ news s.heap s.toks F N ⟨rfl, I⟩) hg hk hx hd
inductive LsAt (b : BA) (Y : List Value → Prop) (u : Value) (nw : Led) : Prop
  | mk (D : Addr) (ys : List Value) (k : Nat) (hu : u = .ref D) (hm : (D, listOf (List.toArray ys) k) ∈ nw) (hK : Keep b (D, listOf (List.toArray ys) k)) (hy : Y ys) : LsAt b Y u nw
@[irreducible] def EvF (c : Cx S) (env : Env) (P : Addr × Obj → Prop) (l : FL) (e : PySem.Expr) (Y : List Value → Prop) (n n' : Nat) : Prop := Eg c.fx env l (c.I P n) e fun u nw => LsAt c.b Y u nw ∧ c.I P n' nw
abbrev EvS (c : Cx S) (env : Env) (P : Addr × Obj → Prop) (l : FL) (e : PySem.Expr) (Ws : List (Value → Prop)) (n n' : Nat) : Prop := EvF c env P l e (Alls Ws) n n'
theorem Cx.I.newL {nw : Led} {D : Addr} {o : Obj} (h : c.I P n nw) (q : ∀ p ∈ nw, @Ne Nat p.1 D) : Keep c.b (D, o) := let ⟨_, _, _, hw, _⟩ := h.w; .inr (.inr (.inr (hw.fb.offB q)))
inductive Steps (c : Cx S) (P : Addr × Obj → Prop) (scope : Scope) (cl : List (Str × Addr)) (x : Str) (elt : PySem.Expr) (st : Nat) : List (Value → Prop) → List (Value → Prop) → Prop
  | nil : Steps c P scope cl x elt st [] []
  | cons {V W : Value → Prop} {Vs Ws : List (Value → Prop)} (h : EvC c P scope cl x V elt W st) (hs : Steps c P scope cl x elt st Vs Ws) : Steps c P scope cl x elt st (V :: Vs) (W :: Ws)
theorem Steps.at {Vs Ws : List (Value → Prop)} (h : Steps c P scope cl x elt st Vs Ws) : Ws.length = Vs.length ∧ ∀ {vs : List Value}, Alls Vs vs → ∀ (i : Nat) (v : Value), vs[i]? = some v → ∃ V W, V v ∧ Ws[i]? = some W ∧ EvC c P scope cl x V elt W st := by
  with_unfolding_all
    induction h with
    | nil => exact ⟨rfl, fun hv i v h => by rw [alls_nil hv] at h; cases h⟩
    | cons h1 h2 ih =>
      refine ⟨congrArg (· + 1) ih.1, fun hv i v h => ?_⟩
      obtain ⟨u, us, e, hu, hus⟩ := alls_cons hv
      subst e
      cases i with
      | zero =>
        obtain rfl := Option.some.inj h
        exact ⟨_, _, hu, rfl, h1⟩
      | succ i => exact ih.2 hus i v h
theorem alls_snoc : ∀ {Ws : List (Value → Prop)} {i : Nat} {ys : List Value} {W : Value → Prop} {y : Value}, Alls (Ws.take i) ys → Ws[i]? = some W → W y → Alls (Ws.take (i + 1)) (ys ++ [y])
  | [], _, _, _, _, _, h, _ => by simp at h
  | U :: Ws, 0, ys, W, y, h, hw, hy => by
    cases ys with
    | nil => obtain rfl : U = W := Option.some.inj hw; exact ⟨hy, by simp [Alls]⟩
    | cons _ _ => exact h.elim
  | U :: Ws, i + 1, ys, W, y, h, hw, hy => by
    cases ys with
    | nil => exact h.elim
    | cons u ys => exact ⟨h.1, alls_snoc (Ws := Ws) h.2 hw hy⟩
theorem comp_turn {k : Nat} {X : Addr × Obj → Prop} {news nw : Led} {I0 D : Addr} {oI : Obj} {ys : List Value} {m : Str → Option Value} {h : Heap} {tk : Nat} {s₁ : Shared} {E' : Value → Shared → Prop} {J : Value → Led → Prop} {nI : String} (hk : c.c0 + k ≤ 990000) (Ij : c.I P k nw) (hX : ∀ p, X p → Keep c.b p ∧ p ∈ nw) (kI : oI.cls = .type nI) (zI : Value.type nI ≠ .type "tuple") (hoC : LCg.NsObj oC m₂)
    (F8 : Fr c.fx.g c.fx.L h m) (N8 : News c.fx.g c.fx.L h ((I0, oI) :: (C, oC) :: (D, LCg.lst ys) :: nw)) (off8 : LCg.Off3 I0 C D nw) (I0' : c.I P n news) (ord : ∀ p ∈ news, @LT.lt Nat _ p.1 I0 ∧ @LT.lt Nat _ p.1 C ∧ @LT.lt Nat _ p.1 D)
    (hE : ∀ P' : Addr × Obj → Prop, (∀ p, P p → P' p) → (∀ p, X p → P' p) → P' (C, oC) → Ev (c.up k hk) (compEnvC scope cl C c.env) P' [] elt W 0 st) (hJ : ∀ y nw', W y → c.I P (k + st) nw' → (∀ p, X p → p ∈ nw') → J y nw') :
    wpAny (model PP c.w) c.fx.A (eval elt (compEnvC scope cl C c.env)) (TurnEnd c.fx.g c.fx.L m s₁ I0 oI C oC D (LCg.lst ys) J) E' { s₁ with heap := h, toks := tk } := by
  with_unfolding_all
    obtain ⟨_, _, _, hw, _⟩ := I0'.w
    obtain ⟨_, _, hm, _⟩ := hw.dict
    have o := ord _ hm
    have v := hw.above
    refine hE (fun p => P p ∨ X p ∨ p = (I0, oI) ∨ p = (C, oC) ∨ p = (D, LCg.lst ys)) (fun p hp => .inl hp) (fun p hp => .inr (.inl hp)) (.inr (.inr (.inr (.inl rfl)))) m _ _ _ _ fok_nil F8 N8 (Cx.I.up (n := 0) ⟨Ij.cons.cons.cons.1, ?_⟩) ?_
    · rintro p (hp | hp | rfl | rfl | rfl)
      · exact Ij.cons.cons.cons.2 p hp
      · exact ⟨(hX p hp).1, .tail _ (.tail _ (.tail _ (hX p hp).2))⟩
      · exact ⟨.inr (.inl (Nat.lt_trans v o.1)), .head _⟩
      · exact ⟨.inr (.inl (Nat.lt_trans v o.2.1)), .tail _ (.head _)⟩
      · exact ⟨.inr (.inl (Nat.lt_trans v o.2.2)), .tail _ (.tail _ (.head _))⟩
    · intro u all h9 tk9 F9 N9 j9
      have I8 := j9.2.down
      have mI := (I8.2 _ (.inr (.inr (.inl rfl)))).2
      have mC := (I8.2 _ (.inr (.inr (.inr (.inl rfl))))).2
      have mD := (I8.2 _ (.inr (.inr (.inr (.inr rfl))))).2
      obtain ⟨ts, ws, j, hw, hj⟩ := I8.w
      exact turnEndO F9 N9 mI mC mD (hJ u _ j9.1 ⟨⟨ts, ws, j, hw.off fun p hp q => less3_of N9 mI mC mD kI rfl hoC zI (by simp) o.1 o.2.1 o.2.2 hp q, hj⟩, fun p hp => ⟨(Ij.2 p hp).1, mem_less3.mpr ⟨(I8.2 p (.inl hp)).2, off8.mem _ (Ij.2 p hp).2⟩⟩⟩ fun p hp => mem_less3.mpr ⟨(I8.2 p (.inr (.inl hp))).2, off8.mem _ (hX p hp).2⟩)
theorem evs_comp {px p2 pos : Pos} {k2 : Nat} {es : List PySem.Expr} {Vs Ws : List (Value → Prop)} (hkd : scope.kind = .function) (hclos : closureFor scope c.env = pure cl) (hcell : ∀ y ∈ scope.names, y.2 ≠ .cell)
    (hnames : ∀ y ∈ scope.names, y.2 = .local → scope.names.lookup y.1 = some .local) (hx : scope.names.lookup x = some .local) (hlen : Nat.ble Vs.length 1000 = true) (h : EvL c c.env P l es Vs n n1) (hn : c.c0 + n1 + st * Vs.length ≤ 990000)
    (steps : Steps c P scope cl x elt st Vs Ws) (hfold : ∀ v, foldedSetIterable (.Tuple es k2 p2) c.env v = pure v) :
    EvS c c.env P l (.ListComp elt [⟨.Name x px, .Tuple es k2 p2, [], 0⟩] scope pos) Ws n (n1 + st * Vs.length) := by
  with_unfolding_all
    exact fun m s news Q E fo F N I ret => by
      refine ListComp_G F hclos hcell hkd hnames (Tuple_ (h _ m s news _ _ fo F N I fun vs news' h' tk' F' N' j => ?_)) hfold
      have hlv : vs.length = Vs.length := alls_len j.1
      have hz : vs.length ≤ sizeLine := Nat.le_trans (Nat.le_of_eq hlv) (Nat.le_trans (Nat.le_of_ble_eq_true hlen) (by decide))
      refine kup_newTuple F' N' (fun D h2 F2 N2 l2 => ?_) hz
      have I2 := j.2.cons (e := (D, ({ cls := .type "tuple", data := .seq vs.toArray } : Obj)))
      refine srcT (fun i ys nw => c.I P (n1 + st * i) nw ∧ (D, tupO vs.toArray 0) ∈ nw ∧ Alls (Ws.take i) ys) rfl F2 N2 (.head _) (by rw [List.size_toArray]; exact hz) hkd hx (fun i ys nw q => q.2.1) ⟨I2, .head _, by rw [List.take_zero]; exact trivial⟩ ?step ?fin
      case step =>
        intro g I0 ord9 i ys nw oI C oC D2 m₂ h tk E' hi ma Ij kI hoC F8 N8 off8 ne8 ord8
        obtain ⟨v, hv, hmv⟩ := ma
        rw [List.size_toArray, hlv] at hi
        obtain ⟨V, W, hV, hWi, hE⟩ := steps.at.2 j.1 i v (by simpa using hv)
        have hkk : c.c0 + (n1 + st * i) ≤ 990000 := Nat.le_trans (Nat.le_trans (Nat.add_le_add_left (Nat.add_le_add_left (Nat.mul_le_mul_left st (Nat.le_of_lt hi)) _) _) (Nat.le_of_eq (Nat.add_assoc _ _ _).symm)) hn
        exact comp_turn (X := fun p => p = (D, tupO vs.toArray 0)) hkk Ij.1 (fun p e => by rw [e]; exact ⟨.inl rfl, Ij.2.1⟩) kI (by simp) hoC F8 N8 off8 I2 ord8 (fun P' q _ qC => hE _ hkk P' C oC m₂ v q qC hoC hmv hV) fun y nw' hy I' hX' => ⟨by rw [Nat.mul_succ, ← Nat.add_assoc]; exact I', hX' _ rfl, alls_snoc Ij.2.2 hWi hy⟩
      case fin =>
        intro g ys nw Ij D2 h tk F9 N9 of1
        have hsz : vs.toArray.size = Vs.length := by rw [List.size_toArray, hlv]
        rw [hsz, ← steps.at.1, List.take_length, steps.at.1] at Ij
        exact ret _ _ h tk F9 N9 ⟨⟨D2, ys, ys.length, rfl, .head _, Ij.1.newL (off1_mem of1), Ij.2.2⟩, Ij.1.cons⟩
end

theorem told_ext {w : World} {b : BA} {ts : List Term} {ws : List Int} {c : Nat} {news nw : Led} {t x wx high low : Int} {tk : Tok} {Nn : Addr} (h : MkT w b ts ws c news (Str.ofString "extract") (.inr (high, low)) (high - low + 1) t nw) (hN : PrsIn nw Nn [(x, wx)]) (g0 : 0 ≤ low) (g1 : low ≤ high) (g2 : high ≤ 149) : Spec w 768 12 nw [.ref b.M.B, .int t tk, .ref Nn] fun r n => n = nw ∧ isI ((x / 2 ^ low.toNat) % 2 ^ (high - low + 1).toNat) r :=
  have h1 : 1 ≤ high - low + 1 := by omega
  have h2 : high - low + 1 ≤ 150 := by omega
  told_of h hN rfl h1 h2 (mod_range _ _) fun ts' ws' so' hx h0 s0 hw' => works1 fun news tk V T1 hb hV hT => spec_bits_extract w hb h0 s0 hw' h1 h2 hV hT hx g0 g1 (by omega)
theorem spec_cut (w : World) {b : BA} {ts : List Term} {ws : List Int} {c : Nat} {news : Led} {W : Addr} {wd ta tb so : Int} {x high low : Int} {t1 t2 t3 : Tok} (hw : WO w b ts ws c W wd ta tb so news) (hc : c + 2 ≤ 1000000) (hl0 : 0 ≤ low) (hl1 : low ≤ high) (hl2 : high < wd) :
   Spec w 790 20 news [.ref W, .int high t1, .int low t2, .int x t3] (Gave w b ts ws (c + 2) news ((x / 2 ^ low.toNat) % 2 ^ (high - low + 1).toNat)) := by
  obtain ⟨oa, da, xa⟩ := hw.xa
  have w1 := hw.w1
  have w2 := hw.w2
  have hd : ∀ nw, Ext news nw → WDict w b W wd ta tb nw := fun nw q => hw.dict.on fun o hm => q _ hm
  have hb : ∀ nw, Ext news nw → FB w b ts ws c nw := fun nw q => hw.fb.mono q
  exact spec_def (o := o790) (binds := [(Str.ofString "world", Value.ref W), (Str.ofString "high", .int high t1), (Str.ofString "low", .int low t2), (Str.ofString "x", .int x t3)]) (by kernel_rfl) rfl (by kernel_rfl) rfl (locs rfl) rfl rfl rfl (by decide) fun c' _ => sr_pre (I := Ext news) (sr_ret (eg_mono (eg_told (tm := id) (ps := [(x, wd)]) (K := MkT w b ts ws (c + 2) news (Str.ofString "extract") (.inr (high, low)) (high - low + 1)) (K' := MkT w b ts ws (c + 2) news (Str.ofString "extract") (.inr (high, low)) (high - low + 1)) (ei_toldN (by kernel_rfl)) rfl rfl (ei_wBank (ei_name rfl) hd)
      (eg_mono (eg_meth (sz := 4) (JA := fun vs nw => Alls [isI high, isI low, isI ta] vs ∧ Ext news nw) bm_extract (ei_wBank (ei_name rfl) hd) (fun nw i => (hb nw i).field fun es af => af.extract) rfl rfl (eil_cons rfl (ei_name rfl) (eil_cons rfl (ei_name rfl) (eil_cons rfl (ei_wA (ei_name rfl) hd) eil_nil))) (fun vs nw h N j => pt_elim (ps := [.I high, .I low, .I ta]) (P := fun vs => Spec w 695 4 nw (.ref b.M.B :: vs) _) (fun t1 t2 t3 => (spec_extract w (hb nw j.2) hc hw.a0 xa hw.s0 hw.hw (by omega) hl0 hl1 hl2 (by omega)).mono fun r n q => (⟨nw, j.2, q⟩ : ∃ n0, Ext news n0 ∧ MadeS w b ts ws (c + 2) n0 (Str.ofString "extract") (.inr (high, low)) (high - low + 1) r n)) j.1) (meth0 rfl rfl rfl rfl)) fun u nw ⟨n0, q, h⟩ => h.mkT q)
      (fun t e nw h => h.cons) (fun t => egl_prs (fun e nw h => h.cons) (.cons (fun I hI => eil_cons rfl (ei_name rfl) (eil_cons rfl (ei_wWidth (ei_name rfl) fun nw i => let ⟨_, _, _, _, _, _, _, _, _, _, hk⟩ := hI nw i; hw.dict.on fun _ hm => hk _ hm (.inr (.inl hw.above))) eil_nil)) .nil) (fun _ h => h) fun e nw h => h.cons) rfl
      fun t tk Nn nw h hN => told_ext h hN hl0 hl1 (by omega)) fun u nw j => gave_of j)) fun nw e p hp => by rw [show nw = news from e]; exact hp
def cut (x hi lo : Int) : Int := (x / 2 ^ lo.toNat) % 2 ^ (hi - lo + 1).toNat
theorem cut_one (x k : Int) : cut x k k = x / 2 ^ k.toNat % 2 := by
  unfold cut
  rw [show k - k + 1 = 1 by omega]
  rfl
theorem eq3_at {prog : Program} {w : World} {A : Around} {E : Value → Shared → Prop} {s : Shared} {h₀ : Heap} {L a b : Addr} {news : Led} {x0 x1 x2 y0 y1 y2 : Int} {t0 t1 t2 u0 u1 u2 : Tok} {n n' : Nat} {Q : Value → Shared → Prop} (N : News h₀ L s.heap news)
   (ha : (a, listOf #[.int x0 t0, .int x1 t1, .int x2 t2] n) ∈ news) (hb : (b, listOf #[.int y0 u0, .int y1 u1, .int y2 u2] n') ∈ news) (hu : A.units + 64 < cLine) (e : x0 = y0 ∧ x1 = y1 ∧ x2 = y2) (h : Q (.bool true) s) : wpAny (model prog w) A (compareOp .Eq (.ref a) (.ref b)) Q E s := by
  obtain ⟨rfl, rfl, rfl⟩ := e
  exact eq_intsK (vs := [.int x0 t0, .int x1 t1, .int x2 t2]) (us := [.int x0 u0, .int x1 u1, .int x2 u2]) (ns := [x0, x1, x2]) (ms := [x0, x1, x2]) ⟨_, N.get ha, rfl, n, rfl⟩ (.cons _ _ (.cons _ _ (.cons _ _ .nil))) ⟨_, N.get hb, rfl, n', rfl⟩ (.cons _ _ (.cons _ _ (.cons _ _ .nil))) hu (by simpa using h)
section
variable {S : Scope} {c : Cx S} {env : Env} {P : Addr × Obj → Prop} {l : FL} {n n1 n2 n3 : Nat}
theorem sp_cut {x hi lo : Int} (h0 : 0 ≤ lo) (h1 : lo ≤ hi) (h2 : hi < c.wd) (hn : Nat.ble n 1000 = true) :
    ∀ vs news, Alls [isR c.W, isI hi, isI lo, isI x] vs → c.I P n news → Spec c.w 790 20 news vs fun r news' => isI (cut x hi lo) r ∧ c.I P (n + 2) news' := fun _ news hV i =>
  pt_elim (ps := [.R c.W, .I hi, .I lo, .I x]) (P := fun vs => Spec c.w 790 20 news vs _) (fun _ _ _ => sp_gave i hn fun _ _ _ hw hk => spec_cut c.w hw (Nat.le_trans (Nat.add_le_add_right hk 2) (Nat.le_of_ble_eq_true rfl)) h0 h1 h2) hV
theorem gl_cut : nsIn (kF c.w.params) mainGlobals "_law_cut" = some (some (.ref 790)) := by kernel_rfl
theorem kp_cut : keepIn (kF c.w.params) (.ref 790) = true := by kernel_rfl
theorem ev_cutN {p1 : Pos} (hx : c.env.kindOf (Str.ofString "_law_cut") = some .globalImplicit) : Ev c c.env P l (.Name (Str.ofString "_law_cut") p1) (isR 790) n n := by with_unfolding_all exact ev_glob hx (by decide) gl_cut
theorem ev_cut {p1 p2 p3 : Pos} {eh el ex : PySem.Expr} {x hi lo : Int} (hf : Ev c env P l (.Name (Str.ofString "_law_cut") p1) (isR 790) n n) (hw : Ev c env P l (.Name (Str.ofString "world") p2) (isR c.W) n n) (hu : [eh, el, ex].all unstarred = true)
    (hh : Ev c env P l eh (isI hi) n n1) (hl : Ev c env P l el (isI lo) n1 n2) (hx : Ev c env P l ex (isI x) n2 n3) (h0 : 0 ≤ lo) (h1 : lo ≤ hi) (h2 : hi < c.wd) (hn : Nat.ble n3 1000 = true) :
    Ev c env P l (.Call (.Name (Str.ofString "_law_cut") p1) [.Name (Str.ofString "world") p2, eh, el, ex] [] p3) (isI (cut x hi lo)) n (n3 + 2) := by
  with_unfolding_all
    exact have u1 := Bool.and_eq_true_iff.mp hu
      have u2 := Bool.and_eq_true_iff.mp u1.2
      have u3 := Bool.and_eq_true_iff.mp u2.2
      ev_call (sz := 20) hf kp_cut rfl hu (evl_cons rfl hw (evl_cons u1.1 hh (evl_cons u2.1 hl (evl_cons u3.1 hx evl_nil)))) (sp_cut h0 h1 h2 hn)
theorem isI_of {i j : Int} {t : Tok} (e : i = j) : isI j (.int i t) := ⟨t, by rw [e]⟩
def isBl (id : String) : Value → Prop := fun u => u = .builtin id
def isTy (id : String) : Value → Prop := fun u => u = .type id
theorem ev_min {p1 p2 : Pos} {a b : PySem.Expr} {i j : Int} (hf : Ev c env P l (.Name (Str.ofString "min") p1) (isBl "min") n n) (hu : [a, b].all unstarred = true) (ha : Ev c env P l a (isI i) n n1) (hb : Ev c env P l b (isI j) n1 n2) : Ev c env P l (.Call (.Name (Str.ofString "min") p1) [a, b] [] p2) (isI (min i j)) n n2 := by
  with_unfolding_all
    exact have u1 := Bool.and_eq_true_iff.mp hu
      ei_min hf u1.1 (Bool.and_eq_true_iff.mp u1.2).1 ha hb
theorem ev_max {p1 p2 : Pos} {a b : PySem.Expr} {i j : Int} (hf : Ev c env P l (.Name (Str.ofString "max") p1) (isBl "max") n n) (hu : [a, b].all unstarred = true) (ha : Ev c env P l a (isI i) n n1) (hb : Ev c env P l b (isI j) n1 n2) : Ev c env P l (.Call (.Name (Str.ofString "max") p1) [a, b] [] p2) (isI (max i j)) n n2 := by
  with_unfolding_all
    exact have u1 := Bool.and_eq_true_iff.mp hu
      ei_max hf u1.1 (Bool.and_eq_true_iff.mp u1.2).1 ha hb
theorem ev_bltN {fn : Str} {id : String} {p1 : Pos} (hx : c.env.kindOf fn = some .globalImplicit) (hd : (fn == ("__debug__" : Str)) = false) (hn : fn ≠ "__name__") (hf : nsIn (kF c.w.params) mainGlobals fn = some none) (hb : bootBuiltins fn = some (.builtin id)) : Ev c c.env P l (.Name fn p1) (isBl id) n n := by with_unfolding_all exact ei_blt hx hd hn hf hb
theorem ev_tyN {fn : Str} {id : String} {p1 : Pos} (hx : c.env.kindOf fn = some .globalImplicit) (hd : (fn == ("__debug__" : Str)) = false) (hn : fn ≠ "__name__") (hf : nsIn (kF c.w.params) mainGlobals fn = some none) (hb : bootBuiltins fn = some (.type id)) : Ev c c.env P l (.Name fn p1) (isTy id) n n := by with_unfolding_all exact ei_blt hx hd hn hf hb
theorem ev_intNe {p1 p2 p3 : Pos} {a b : PySem.Expr} {i j : Int} (hf : Ev c env P l (.Name (Str.ofString "int") p1) (isTy "int") n n) (ha : Ev c env P l a (isI i) n n1) (hb : Ev c env P l b (isI j) n1 n2) :
    Ev c env P l (.Call (.Name (Str.ofString "int") p1) [.Compare a [.NotEq] [b] p3] [] p2) (isI (if i = j then 0 else 1)) n n2 := by
  with_unfolding_all
    exact fun m s news Q E fo F N I ret =>
      Call_ (hf m s news _ E fo F N I fun u news0 h0 tk0 F0 N0 j0 => by
        obtain rfl : u = .type "int" := j0.1
        refine PyProof.Rows.callWith_type1 (args_cons (wpAny_Compare1 (ha m _ news0 _ E fo F0 N0 j0.2 fun u' news' h' tk' F' N' j1 => hb m _ news' _ E fo F' N' j1.2 fun v' news2 h2' tk2 F2 N2 j2 => ?_) (marks_of rfl)))
        obtain ⟨t1, e1⟩ := j1.1
        obtain ⟨t2, e2⟩ := j2.1
        rw [e1, e2]
        refine ne_int (args_nil (call_int_bool (ret _ news2 h2' _ F2 N2 ⟨isI_of ?_, j2.2⟩)))
        by_cases q : i = j
        · rw [if_pos q, q, bne_self_eq_false]; rfl
        · rw [if_neg q, bne_iff_ne.mpr q]; rfl)
theorem evs_list {es : List PySem.Expr} {p : Pos} {Ws : List (Value → Prop)} (hlen : Nat.ble Ws.length 1000 = true) (h : EvL c env P l es Ws n n1) : EvS c env P l (.List es p) Ws n n1 := by
  with_unfolding_all
    exact eg_mono (eg_list h fun vs nw j => by rw [alls_len j.1]; exact Nat.le_of_ble_eq_true hlen) fun u nw ⟨D, vs, n0, e, e2, j, lt⟩ => by
        rw [e2]
        exact ⟨⟨D, vs, 0, e, .head _, j.2.newL fun p hp => Nat.ne_of_lt (lt p hp), j.1⟩, j.2.cons⟩
theorem ev_eqL {a b : PySem.Expr} {p : Pos} {Y1 Y2 : List Value → Prop} {op : CmpOp} {β : Bool} (hm : behindInMarks op b = false) (ha : EvF c env P l a Y1 n n1) (hb : ∀ P' : Addr × Obj → Prop, (∀ p, P p → P' p) → EvF c env P' l b Y2 n1 n2)
    (hs : ∀ (D1 D2 : Addr) (ys1 ys2 : List Value) (k1 k2 : Nat) (s : Shared) (m : Str → Option Value) (nw : Led) (Q E : Value → Shared → Prop), News c.fx.g c.fx.L s.heap nw → (D1, listOf ys1.toArray k1) ∈ nw → (D2, listOf ys2.toArray k2) ∈ nw → Y1 ys1 → Y2 ys2 → Q (.bool β) s → wpAny (model PP c.w) c.fx.A (compareOp op (.ref D1) (.ref D2)) Q E s) :
    Ev c env P l (.Compare a [op] [b] p) (isB β) n n2 := by
  with_unfolding_all
    exact fun m s news Q E fo F N I ret =>
      wpAny_Compare1 (ha m s news _ E fo F N I fun u n1 h' tk' F' N' j1 => by
        obtain ⟨⟨D, ys, k, e, hm1, hK, hy⟩, i1⟩ := j1
        subst e
        exact hb (fun p => P p ∨ p = (D, listOf (List.toArray ys) k)) (fun p hp => .inl hp) m _ n1 _ E fo F' N' ⟨i1.1, fun p hp => hp.elim (i1.2 p) fun e => by rw [e]; exact ⟨hK, hm1⟩⟩ fun v n2 h2 tk2 F2 N2 j2 => by
          obtain ⟨⟨D2, ys2, k2, e, hm2, _, hy2⟩, i2⟩ := j2
          subst e
          exact hs D D2 ys ys2 k k2 _ m n2 _ E N2 (i2.2 _ (.inr rfl)).2 hm2 hy hy2 (ret _ n2 h2 _ F2 N2 ⟨rfl, i2.1, fun p hp => i2.2 p (.inl hp)⟩)) hm
theorem ev_eq3 {a b : PySem.Expr} {p : Pos} {a1 a2 a3 b1 b2 b3 : Int} (ha : EvS c env P l a [isI a1, isI a2, isI a3] n n1) (hb : ∀ P' : Addr × Obj → Prop, (∀ p, P p → P' p) → EvS c env P' l b [isI b1, isI b2, isI b3] n1 n2) (e : a1 = b1 ∧ a2 = b2 ∧ a3 = b3) :
    Ev c env P l (.Compare a [.Eq] [b] p) (isB true) n n2 := by
  with_unfolding_all
    exact ev_eqL (marks_of rfl) ha hb fun D1 D2 ys1 ys2 k1 k2 s m nw Q E N m1 m2 h1 h2 h => by
      obtain ⟨v1, v2, v3, e1, ⟨t1, q1⟩, ⟨t2, q2⟩, ⟨t3, q3⟩⟩ := alls3 h1
      obtain ⟨w1, w2, w3, e2, ⟨u1, r1⟩, ⟨u2, r2⟩, ⟨u3, r3⟩⟩ := alls3 h2
      subst e1 e2 q1 q2 q3 r1 r2 r3
      refine eq3_at N m1 m2 ?_ e h
      have := c.fx.units
      show c.fx.un + 64 < cLine
      omega
theorem ex_unpack3 {x y z : Str} {p1 p2 p3 p4 p5 : Pos} {k1 : Nat} {e : PySem.Expr} {ss : List Stmt} {U1 U2 U3 V : Value → Prop} (hx : c.env.kindOf x = some .local) (hy : c.env.kindOf y = some .local) (hz : c.env.kindOf z = some .local)
    (hs1 : swapsWithSole [.Tuple [.Name x p1, .Name y p2, .Name z p3] k1 p4] e p5.line c.env = pure false) (hw : swappedStores [.Tuple [.Name x p1, .Name y p2, .Name z p3] k1 p4] e c.env = pure none)
    (h : EvS c c.env P l e [U1, U2, U3] n n1) (hs : Ex c P ((z, U3) :: (y, U2) :: (x, U1) :: l) ss V n1 n2) : Ex c P l (.Assign [.Tuple [.Name x p1, .Name y p2, .Name z p3] k1 p4] e p5 :: ss) V n n2 := by
  with_unfolding_all
    exact fun m s news Q fo F N I ret =>
      wpAny_execs_cons (Assign_Tuple (h m s news _ _ fo F N I fun u news' h' tk' F' N' j => by
        obtain ⟨⟨D, ys, k, e, hm, hK, hy3⟩, I'⟩ := j
        subst e
        obtain ⟨v1, v2, v3, hvs9, q1, q2, q3⟩ := alls3 hy3
        subst hvs9
        refine kun_list F' N' ⟨_, N'.get hm, rfl, k, rfl⟩ rfl rfl rfl fun h2 F2 N2 => ?_
        exact assignInOrder_cons (assign_Name (storeX_L F2 N2 (fun h3 F3 N3 => assignInOrder_cons (assign_Name (storeX_L F3 N3 (fun h4 F4 N4 => assignInOrder_cons (assign_Name (storeX_L F4 N4 (fun h5 F5 N5 => assignInOrder_nil (hs _ _ _ Q (((fo.set q1).set q2).set q3) F5 N5 I' ret)) c.fx.hk hz))) c.fx.hk hy))) c.fx.hk hx))) hs1 hw)
end

section
variable {w : World} {S : Scope} {z : Nat} {l : FL}
theorem spec_defC {f : Addr} {news : Led} {vs : List Value} {R : Value → Led → Prop} {name qual : Str} {params : Arguments} {body : List Stmt} {dV kV doc pm cdv ct oc : Value} {an od : Option Addr} {osl : Array (Option Value)} {binds : List (Str × Value)}
    {o : Obj} (ho : (kF w.params).lookup f = some o) (he : o = ⟨oc, od, .func (fnOf name qual params body S dV kV doc pm an cdv ct), osl⟩) (hcd : codeIn (kF w.params) cdv qual = true) (hb : bindArgs (fnOf name qual params body S dV kV doc pm an cdv ct) ⟨vs, []⟩ = pure binds) (hkind : (binds.all fun y => S.names.lookup y.1 == some .local || S.names.lookup y.1 == some .cell) = true) (hnd : ((cellsFrom 0 S.names []).map (·.1)).Nodup)
    (hl : ∀ L, FOk l (bindL (envOfC qual S L f cdv).kindOf binds fun _ => none)) (hco : S.isCoroutine = false) (hgen : S.isGenerator = false) (hk : S.kind = .function) (h : ∀ (c : Fx w S z) (cells : Led), c.cl = cellsFrom (c.L + 1) S.names [] → CellsAre (bindC (envOfC qual S c.L f cdv).kindOf binds fun _ => none) (cellsFrom (c.L + 1) S.names []) cells → (∀ p ∈ news, @LT.lt Nat _ p.1 c.L) → Sr c (At (cells ++ news)) l body R) : Spec w f (z + 1) news vs R := by
  with_unfolding_all
    unfold Spec
    intro mean mg mb' dp un gd cn cs a' ccd cl outer A₀ base h₀ L m s Q E B F X N T hk' hdp hu hret
    refine wpAny_call ?_
    refine code_defC B F X N T rfl rfl hk' (ho.trans (congrArg some he)) hcd (show dp < recursionLimit from Nat.lt_of_le_of_lt (Nat.le_add_right _ _) hdp) (BindsTo.of_eq hb) hkind hnd ?_ hco hgen hk
    intro g L' h₁ tk cells FG F' N' Y' B' X' T' lt
    refine wpAny_mono (h ⟨mean, mg, mb', dp + 1, un + 3, gd, qual, L', f, cdv, cellsFrom (L' + 1) S.names [], _, _, _, g, B', X', T', by omega, by omega, hk⟩ cells rfl Y' lt _ _ _ _ (hl L') F' N' rfl ?_) (fun _ _ x => x) (fun _ _ x => x.elim)
    intro f news' h' m' tk' F2 N2 hR
    obtain ⟨u, e, hR⟩ := hR
    subst e
    exact leaveK_ F2 N2 fun F3 N3 => hret u news' _ _ F3 N3 hR
theorem cells_at {cm : Str → Option Value} {cs : List (Str × Addr)} {cells : Led} (h : CellsAre cm cs cells) {x : Str} {a : Addr} (q : cs.lookup x = some a) : ∃ o, (a, o) ∈ cells ∧ o.data = .cell (cm x) := by
  induction h with
  | nil => cases q
  | cons hd hs ih =>
    rw [List.lookup_cons] at q
    split at q
    · rename_i e
      obtain rfl := Option.some.inj q
      obtain rfl := beq_iff_eq.mp e
      exact ⟨_, .head _, hd⟩
    · exact (ih q).imp fun o r => ⟨.tail _ r.1, r.2⟩
theorem cells_mem {cm : Str → Option Value} {cs : List (Str × Addr)} {cells : Led} (h : CellsAre cm cs cells) : ∀ p ∈ cells, ∃ x, (x, p.1) ∈ cs := by
  induction h with
  | nil => exact fun p h => nomatch h
  | cons hd hs ih =>
    intro p hp
    rcases List.mem_cons.mp hp with rfl | hp
    · exact ⟨_, .head _⟩
    · exact (ih p hp).imp fun _ q => .tail _ q
theorem cellsFrom_ge : ∀ {ns : List (Str × NameKind)} {n : Nat} {acc : List (Str × Addr)} {q : Str × Addr}, q ∈ cellsFrom n ns acc → q ∈ acc ∨ @LE.le Nat _ n q.2
  | [], _, _, _, h => .inl h
  | (x, k) :: r, n, acc, q, h => by
    unfold cellsFrom at h
    split at h
    · rcases cellsFrom_ge h with h | h
      · rcases List.mem_cons.mp h with rfl | h
        · exact .inr (Nat.le_refl _)
        · exact .inl h
      · exact .inr (Nat.le_of_succ_le h)
    · exact cellsFrom_ge h
theorem cells_gt {cm : Str → Option Value} {ns : List (Str × NameKind)} {n : Nat} {cells : Led} (h : CellsAre cm (cellsFrom (n + 1) ns []) cells) (p : Addr × Obj) (hp : p ∈ cells) : @LT.lt Nat _ n p.1 := let ⟨_, q⟩ := cells_mem h p hp; (cellsFrom_ge q).elim (fun q => nomatch q) id
theorem WO.app {b : BA} {ts : List Term} {ws : List Int} {c : Nat} {W : Addr} {wd ta tb so : Int} {news : Led} (h : WO w b ts ws c W wd ta tb so news) (cells : Led) : WO w b ts ws c W wd ta tb so (cells ++ news) := h.upd (h.fb.mono fun _ hp => List.mem_append_right _ hp) (List.prefix_refl _) (List.prefix_refl _) (h.dict.on fun _ hp => List.mem_append_right _ hp)
theorem WO.low {b : BA} {ts : List Term} {ws : List Int} {c : Nat} {W : Addr} {wd ta tb so : Int} {news : Led} {L : Addr} (h : WO w b ts ws c W wd ta tb so news) (q : ∀ p ∈ news, @LT.lt Nat _ p.1 L) : @LT.lt Nat _ W L := let ⟨_, _, hm, _, _, _, _, _⟩ := h.dict; q _ hm
theorem TrueW.sub {b : BA} {c : Nat} {W : Addr} {wd ta tb so : Int} {news news2 nw : Led} {r : Value} (h : TrueW w b c W wd ta tb so news2 r nw) (q : ∀ p ∈ news, p ∈ news2) : TrueW w b c W wd ta tb so news r nw := let ⟨ts, ws, k, h1, h2, h3, hk⟩ := h; ⟨ts, ws, k, h1, h2, h3, fun p hp => hk p (q p hp)⟩
end
noncomputable abbrev S809 : Scope := scopeOf (pickS 45)
theorem rowsPlacesE : True := by
  k_with "nm" => ((with_reducible apply ev_cell); (assumption); (kernel_rfl); (decide))
  k_with "ev" => (first | ((with_reducible apply ev_pow2); (k_extra "ev"); (k_extra "ev"); (omega); (omega)) | ((with_reducible apply ev_cut); (apply ev_cutN); (kernel_rfl); (k_extra "nm"); (rfl); (k_extra "ev"); (k_extra "ev"); (k_extra "ev"); (assumption); (exact Int.le_refl _); (assumption); (rfl)) | ((with_reducible apply ev_min); ((with_reducible apply ev_bltN); (kernel_rfl); (decide); (decide); (kernel_rfl); (kernel_rfl)); (rfl); (k_extra "ev"); (k_extra "ev")) | ((with_reducible apply ev_max); ((with_reducible apply ev_bltN); (kernel_rfl); (decide); (decide); (kernel_rfl); (kernel_rfl)); (rfl); (k_extra "ev"); (k_extra "ev")) | ((with_reducible apply ev_intNe); ((with_reducible apply ev_tyN); (kernel_rfl); (decide); (decide); (kernel_rfl); (kernel_rfl)); (k_extra "ev"); (k_extra "ev")))
  trivial
section
variable {S : Scope} {c : Cx S} {P P' : Addr × Obj → Prop} {scope : Scope} {cl : List (Str × Addr)}
inductive FreeIs (env : Env) (P : Addr × Obj → Prop) (scope : Scope) (cl : List (Str × Addr)) (x : Str) (V : Value → Prop) : Prop
  | mk (a : Addr) (o : Obj) (v : Value) (h1 : cl.lookup x = some a) (h2 : P (a, o)) (h3 : o.data = .cell (some v)) (h4 : V v) (h5 : ∀ C, (compEnvC scope cl C env).kindOf x = some .cell) (h6 : (x == ("__debug__" : Str)) = false) : FreeIs env P scope cl x V
theorem FreeIs.mono {env : Env} {x : Str} {V : Value → Prop} (h : FreeIs env P scope cl x V) (q : ∀ p, P p → P' p) : FreeIs env P' scope cl x V := let ⟨a, o, v, h1, h2, h3, h4, h5, h6⟩ := h; ⟨a, o, v, h1, q _ h2, h3, h4, h5, h6⟩
theorem CellIs.free {x : Str} {V : Value → Prop} (h : CellIs c.fx.cl P x V) (q : cl.lookup x = c.fx.cl.lookup x) (h5 : ∀ C, (compEnvC scope cl C c.env).kindOf x = some .cell) (h6 : (x == ("__debug__" : Str)) = false) : FreeIs c.env P scope cl x V := let ⟨a, o, v, h1, h2, h3, h4⟩ := h; ⟨a, o, v, q.trans h1, h2, h3, h4, h5, h6⟩
theorem ev_freeF {x : Str} {V : Value → Prop} {C : Addr} {p : Pos} {l : FL} {n : Nat} (hk : scope.kind = .function) (h : FreeIs c.env P scope cl x V) : Ev c (compEnvC scope cl C c.env) P l (.Name x p) V n n := by
  with_unfolding_all
    exact fun m s news Q E fo F N I ret =>
      let ⟨_, _, v, h1, h2, h3, h4, h5, h6⟩ := h
      lcf_cell N h1 (I.2 _ h2).2 h3 (ret v news s.heap s.toks F N ⟨h4, I⟩) hk (h5 C) h6
theorem cell_start {cm : Str → Option Value} {cells : Led} {L : Addr} {cl : List (Str × Addr)} (h : CellsAre cm (cellsFrom (L + 1) S.names []) cells) (hcl : cl = cellsFrom (L + 1) S.names []) (hP : ∀ p ∈ cells, P p) {x : Str} {a : Addr} {v : Value} {V : Value → Prop} (q : (cellsFrom (L + 1) S.names []).lookup x = some a) (hv : cm x = some v) (hV : V v) : CellIs cl P x V :=
  let ⟨o, m, d⟩ := cells_at h q
  ⟨a, o, v, by rw [hcl]; exact q, hP _ m, by rw [d, hv], hV⟩
theorem evc_of2 {nx ny no op : Str} {x y : Int} {p1 p2 p3 p4 p5 p6 : Pos} (hkd : scope.kind = .function) (hop : Two op) (hx : InR c.wd x) (hy : InR c.wd y) (fW : FreeIs c.env P scope cl (Str.ofString "world") (isR c.W)) (fX : FreeIs c.env P scope cl nx (isI x)) (fY : FreeIs c.env P scope cl ny (isI y))
    (ho : ∀ C, (compEnvC scope cl C c.env).kindOf no = some .local) (hod : (no == ("__debug__" : Str)) = false) (hf : ∀ C, (compEnvC scope cl C c.env).kindOf (Str.ofString "_law_of") = some .globalImplicit) :
    EvC c P scope cl no (isS op) (.Call (.Name (Str.ofString "_law_of") p1) [.Name (Str.ofString "world") p2, .Name no p3, .Name nx p4, .Name ny p5] [] p6) (isI (two op x y c.wd)) 1 := by
  with_unfolding_all
    intro k hk9 P' C oC m₂ v hPP hC hN hm hv
    exact ev_call (c := c.up k hk9) (sz := 20) (ev_globC rfl hkd (hf C) (by decide) gl_of) kp_of rfl rfl
      (evl_cons rfl (ev_freeF (c := c.up k hk9) hkd (fW.mono hPP)) (evl_cons rfl (ev_own hC hN hm hv hkd (ho C) hod) (evl_cons rfl (ev_freeF (c := c.up k hk9) hkd (fX.mono hPP)) (evl_cons rfl (ev_freeF (c := c.up k hk9) hkd (fY.mono hPP)) evl_nil)))) (sp_of2 (c := c.up k hk9) (n := 0) hop hx hy rfl)
theorem evc_cut {nk no : Str} {k0 x : Int} {p1 p2 p3 p4 p5 p6 : Pos} (hkd : scope.kind = .function) (h0 : 0 ≤ k0) (h1 : k0 < c.wd) (fW : FreeIs c.env P scope cl (Str.ofString "world") (isR c.W)) (fK : FreeIs c.env P scope cl nk (isI k0))
    (ho : ∀ C, (compEnvC scope cl C c.env).kindOf no = some .local) (hod : (no == ("__debug__" : Str)) = false) (hf : ∀ C, (compEnvC scope cl C c.env).kindOf (Str.ofString "_law_cut") = some .globalImplicit) :
    EvC c P scope cl no (isI x) (.Call (.Name (Str.ofString "_law_cut") p1) [.Name (Str.ofString "world") p2, .Name nk p3, .Name nk p4, .Name no p5] [] p6) (isI (cut x k0 k0)) 2 := by
  with_unfolding_all
    intro k hk9 P' C oC m₂ v hPP hC hN hm hv
    exact ev_call (c := c.up k hk9) (sz := 20) (ev_globC rfl hkd (hf C) (by decide) gl_cut) kp_cut rfl rfl
      (evl_cons rfl (ev_freeF (c := c.up k hk9) hkd (fW.mono hPP)) (evl_cons rfl (ev_freeF (c := c.up k hk9) hkd (fK.mono hPP)) (evl_cons rfl (ev_freeF (c := c.up k hk9) hkd (fK.mono hPP)) (evl_cons rfl (ev_own hC hN hm hv hkd (ho C) hod) evl_nil)))) (sp_cut (c := c.up k hk9) (n := 0) h0 (Int.le_refl _) h1 rfl)
end
section
theorem places_ex {c : Cx S809} {P : Addr × Obj → Prop} {x y k : Int} (hx : InR c.wd x) (hy : InR c.wd y) (hk0 : 0 ≤ k) (hk1 : k < c.wd) (w1 : 1 ≤ c.wd) (w2 : c.wd ≤ 70) (hc : c.c0 ≤ 900000) (hcl : c.fx.cl = cellsFrom (c.fx.L + 1) S809.names [])
    (cW : CellIs c.fx.cl P (Str.ofString "world") (isR c.W)) (cX : CellIs c.fx.cl P (Str.ofString "x") (isI x)) (cY : CellIs c.fx.cl P (Str.ofString "y") (isI y)) (cK : CellIs c.fx.cl P (Str.ofString "k") (isI k)) :
    Ex c P [] (bodyOf (pickS 45)) (isB true) 0 60 := by
  have hp := PySem.W.kbt_pos c.wd.toNat
  have hp2 : (2 : Int) ≤ 2 ^ c.wd.toNat := by
    have h : (2 : Nat) ^ 1 ≤ 2 ^ c.wd.toNat := pow_mono2 (by omega)
    have h2 : ((2 ^ c.wd.toNat : Nat) : Int) = 2 ^ c.wd.toNat := by simp
    omega
  have hwp : c.wd < 2 ^ c.wd.toNat := by
    have h := Nat.lt_two_pow_self (n := c.wd.toNat)
    have h2 : ((2 ^ c.wd.toNat : Nat) : Int) = 2 ^ c.wd.toNat := by simp
    omega
  have hq := PySem.W.kbt_pos k.toNat
  have hkp : (2 : Int) ^ k.toNat < 2 ^ c.wd.toNat := by
    have h : (2 : Nat) ^ k.toNat < 2 ^ c.wd.toNat := Nat.pow_lt_pow_right (by decide) (by omega)
    have h2 : ((2 ^ c.wd.toNat : Nat) : Int) = 2 ^ c.wd.toNat := by simp
    have h3 : ((2 ^ k.toNat : Nat) : Int) = 2 ^ k.toNat := by simp
    omega
  have rA := two_in (wd := c.wd) tAnd hx hy
  have rO := two_in (wd := c.wd) tOr hx hy
  have rX := two_in (wd := c.wd) tXor hx hy
  have e1 : two (Str.ofString "bvshl") x k c.wd = two (Str.ofString "bvmul") x (2 ^ k.toNat) c.wd := by rw [two_bvshl, two_bvmul, if_neg (by omega)]
  have e2 : two (Str.ofString "bvlshr") x k c.wd = two (Str.ofString "bvudiv") x (2 ^ k.toNat) c.wd := by rw [two_bvlshr, two_bvudiv, if_neg (by omega), if_neg (by omega)]
  have e3 : two (Str.ofString "bvshl") x c.wd c.wd = 0 := by rw [two_bvshl, if_pos (Int.le_refl _)]
  have e4 : two (Str.ofString "bvlshr") x c.wd c.wd = 0 := by rw [two_bvlshr, if_pos (Int.le_refl _)]
  have e5 : two (Str.ofString "bvadd") (two (Str.ofString "bvand") x y c.wd) (two (Str.ofString "bvor") x y c.wd) c.wd = two (Str.ofString "bvadd") x y c.wd := by
    rw [two_bvadd, two_bvadd, two_bvand, two_bvor, bitOr_and]
    congr 1
    omega
  have e6 : two (Str.ofString "bvsub") (two (Str.ofString "bvor") x y c.wd) (two (Str.ofString "bvand") x y c.wd) c.wd = two (Str.ofString "bvxor") x y c.wd := by
    have h : two (Str.ofString "bvor") x y c.wd - two (Str.ofString "bvand") x y c.wd = two (Str.ofString "bvxor") x y c.wd := by
      rw [two_bvor, two_bvand, two_bvxor, bitOr_and, bitXor_and]; omega
    rw [two_bvsub, h]
    exact l_small rX.1 rX.2
  have e7 : cut (two (Str.ofString "bvand") x y c.wd) k k = min (cut x k k) (cut y k k) := by rw [cut_one, cut_one, cut_one, two_bvand]; exact bit_and x y _
  have e8 : cut (two (Str.ofString "bvor") x y c.wd) k k = max (cut x k k) (cut y k k) := by rw [cut_one, cut_one, cut_one, two_bvor]; exact bit_or x y _
  have e9 : cut (two (Str.ofString "bvxor") x y c.wd) k k = if cut x k k = cut y k k then 0 else 1 := by rw [cut_one, cut_one, cut_one, two_bvxor]; exact bit_xor x y _
  have rK : InR c.wd k := ⟨hk0, by omega⟩
  have rW : InR c.wd c.wd := ⟨by omega, hwp⟩
  have rP : InR c.wd (2 ^ k.toNat) := ⟨Int.le_of_lt hq, hkp⟩
  apply ex_le
  · (apply ex_tup2); (kernel_rfl); (kernel_rfl); (rfl); (rfl); (k_extra "evl")
    (with_reducible apply ex_ifF); (k_extra "evt")
    (with_reducible apply ex_ifF); (k_extra "evt")
    (with_reducible apply ex_unpack3); (kernel_rfl); (kernel_rfl); (kernel_rfl); (rfl); (rfl)
    · (with_reducible apply evs_comp (st := 1) (Ws := [isI (two (Str.ofString "bvand") x y c.wd), isI (two (Str.ofString "bvor") x y c.wd), isI (two (Str.ofString "bvxor") x y c.wd)]))
      (kernel_rfl); (show closureFor _ (envX c.fx.cn S809 c.fx.L c.fx.a c.fx.ccd c.fx.cl) = _; rw [hcl]; rfl); (decide); (decide); (rfl)
      rotate_left 1
      (k_extra "evl")
      rotate_right 1
      (rfl); (simp only [List.length_cons, List.length_nil]; omega)
      · refine .cons (evc_of2 (by kernel_rfl) tAnd hx hy (cW.free (by rw [hcl]; rfl) (fun C => by kernel_rfl) (by decide)) (cX.free (by rw [hcl]; rfl) (fun C => by kernel_rfl) (by decide)) (cY.free (by rw [hcl]; rfl) (fun C => by kernel_rfl) (by decide)) (fun C => by kernel_rfl) (by decide) (fun C => by kernel_rfl)) ?_
        refine .cons (evc_of2 (by kernel_rfl) tOr hx hy (cW.free (by rw [hcl]; rfl) (fun C => by kernel_rfl) (by decide)) (cX.free (by rw [hcl]; rfl) (fun C => by kernel_rfl) (by decide)) (cY.free (by rw [hcl]; rfl) (fun C => by kernel_rfl) (by decide)) (fun C => by kernel_rfl) (by decide) (fun C => by kernel_rfl)) ?_
        exact .cons (evc_of2 (by kernel_rfl) tXor hx hy (cW.free (by rw [hcl]; rfl) (fun C => by kernel_rfl) (by decide)) (cX.free (by rw [hcl]; rfl) (fun C => by kernel_rfl) (by decide)) (cY.free (by rw [hcl]; rfl) (fun C => by kernel_rfl) (by decide)) (fun C => by kernel_rfl) (by decide) (fun C => by kernel_rfl)) .nil
      · intro v; rfl
    (with_reducible apply ex_ifF); (k_extra "evt")
    (with_reducible apply ex_ret)
    (with_reducible apply ev_eq3 (a1 := cut (two (Str.ofString "bvand") x y c.wd) k k) (a2 := cut (two (Str.ofString "bvor") x y c.wd) k k) (a3 := cut (two (Str.ofString "bvxor") x y c.wd) k k) (b1 := min (cut x k k) (cut y k k)) (b2 := max (cut x k k) (cut y k k)) (b3 := if cut x k k = cut y k k then 0 else 1))
    · (with_reducible apply evs_comp (st := 2) (Ws := [isI (cut (two (Str.ofString "bvand") x y c.wd) k k), isI (cut (two (Str.ofString "bvor") x y c.wd) k k), isI (cut (two (Str.ofString "bvxor") x y c.wd) k k)]))
      (kernel_rfl); (show closureFor _ (envX c.fx.cn S809 c.fx.L c.fx.a c.fx.ccd c.fx.cl) = _; rw [hcl]; rfl); (decide); (decide); (rfl)
      rotate_left 1
      (k_extra "evl")
      rotate_right 1
      (rfl); (simp only [List.length_cons, List.length_nil]; omega)
      · refine .cons (evc_cut (by kernel_rfl) hk0 hk1 (cW.free (by rw [hcl]; rfl) (fun C => by kernel_rfl) (by decide)) (cK.free (by rw [hcl]; rfl) (fun C => by kernel_rfl) (by decide)) (fun C => by kernel_rfl) (by decide) (fun C => by kernel_rfl)) ?_
        refine .cons (evc_cut (by kernel_rfl) hk0 hk1 (cW.free (by rw [hcl]; rfl) (fun C => by kernel_rfl) (by decide)) (cK.free (by rw [hcl]; rfl) (fun C => by kernel_rfl) (by decide)) (fun C => by kernel_rfl) (by decide) (fun C => by kernel_rfl)) ?_
        exact .cons (evc_cut (by kernel_rfl) hk0 hk1 (cW.free (by rw [hcl]; rfl) (fun C => by kernel_rfl) (by decide)) (cK.free (by rw [hcl]; rfl) (fun C => by kernel_rfl) (by decide)) (fun C => by kernel_rfl) (by decide) (fun C => by kernel_rfl)) .nil
      · intro v; rfl
    · intro P' hP
      have cW := cW.mono hP
      have cX := cX.mono hP
      have cY := cY.mono hP
      have cK := cK.mono hP
      (with_reducible apply evs_list)
      · rfl
      · (k_extra "evl")
    · exact ⟨e7, e8, e9⟩
  · rfl
end
theorem spec_places (w : World) {b : BA} {ts : List Term} {ws : List Int} {c : Nat} {news : Led} {W : Addr} {wd ta tb so : Int} {x y k : Int} {t1 t2 t3 : Tok} (hw : WO w b ts ws c W wd ta tb so news) (hc : c ≤ 900000) (hx0 : 0 ≤ x) (hx1 : x < 2 ^ wd.toNat) (hy0 : 0 ≤ y) (hy1 : y < 2 ^ wd.toNat) (hk0 : 0 ≤ k) (hk1 : k < wd) :
   Spec w 809 30 news [.ref W, .int x t1, .int y t2, .int k t3] (TrueW w b (c + 60) W wd ta tb so news) :=
  spec_defC (o := o809) (binds := [(Str.ofString "world", Value.ref W), (Str.ofString "x", .int x t1), (Str.ofString "y", .int y t2), (Str.ofString "k", .int k t3)]) (l := []) (by kernel_rfl) rfl (by kernel_rfl) rfl rfl (by decide +kernel) (fun _ => fok_nil) rfl rfl rfl fun c' cells hcl Y lt =>
    have hP : ∀ p ∈ cells, p ∈ cells ++ news ∧ Keep b p := fun p hp => ⟨List.mem_append_left _ hp, .inr (.inl (Nat.lt_trans hw.above (Nat.lt_trans (hw.low lt) (cells_gt Y p hp))))⟩
    sr_mono (sr_part (hw.app cells) (Nat.le_trans hc (Nat.le_of_ble_eq_true rfl)) (places_ex ⟨hx0, hx1⟩ ⟨hy0, hy1⟩ hk0 hk1 hw.w1 hw.w2 hc hcl (cell_start Y hcl hP rfl rfl rfl) (cell_start Y hcl hP rfl rfl ⟨_, rfl⟩) (cell_start Y hcl hP rfl rfl ⟨_, rfl⟩) (cell_start Y hcl hP rfl rfl ⟨_, rfl⟩))) fun _ _ j => j.sub fun _ hp => List.mem_append_right _ hp
inductive TM (ts : List Term) (ws : List Int) (t : Int) (op : Str) (dat : Sum Int (Int × Int)) (wd : Int) : Prop
  | mk (so : Int) (pos : 0 ≤ t) (h1 : ts[t.toNat]? = some (op, so, dat)) (h2 : 0 ≤ so) (h3 : ws[so.toNat]? = some wd) : TM ts ws t op dat wd
theorem TM.mono {ts ts' : List Term} {ws ws' : List Int} {t wd : Int} {op : Str} {dat : Sum Int (Int × Int)} (hs : ts <+: ts') (hv : ws <+: ws') (h : TM ts ws t op dat wd) : TM ts' ws' t op dat wd := let ⟨so, p, h1, h2, h3⟩ := h; ⟨so, p, get_prefix hs h1, h2, get_prefix hv h3⟩
inductive SortIs (ws : List Int) (so wd : Int) : Prop
  | mk (pos : 0 ≤ so) (at_ : ws[so.toNat]? = some wd) : SortIs ws so wd
def TmI (ts : List Term) (ws : List Int) (t wd : Int) : Prop := ∃ op dat, TM ts ws t op dat wd
theorem WO.tma {w : World} {b : BA} {ts : List Term} {ws : List Int} {c : Nat} {W : Addr} {wd ta tb so : Int} {news : Led} (h : WO w b ts ws c W wd ta tb so news) : TmI ts ws ta wd := h.xa.imp fun _ q => q.imp fun _ hx => ⟨so, h.a0, hx, h.s0, h.hw⟩
theorem WO.tmb {w : World} {b : BA} {ts : List Term} {ws : List Int} {c : Nat} {W : Addr} {wd ta tb so : Int} {news : Led} (h : WO w b ts ws c W wd ta tb so news) : TmI ts ws tb wd := h.xb.imp fun _ q => q.imp fun _ hx => ⟨so, h.b0, hx, h.s0, h.hw⟩
theorem pow_le_pow_i {a b : Int} (h : a ≤ b) : (2 : Int) ^ a.toNat ≤ 2 ^ b.toNat := by
  have h1 : (2 : Nat) ^ a.toNat ≤ 2 ^ b.toNat := pow_mono2 (by omega)
  have h2 : ((2 ^ a.toNat : Nat) : Int) = 2 ^ a.toNat := by simp
  have h3 : ((2 ^ b.toNat : Nat) : Int) = 2 ^ b.toNat := by simp
  omega
theorem conc_range {x y wx wy : Int} (h0 : 0 ≤ wx) (h1 : 0 ≤ wy) (hx0 : 0 ≤ x) (hx1 : x < 2 ^ wx.toNat) (hy0 : 0 ≤ y) (hy1 : y < 2 ^ wy.toNat) : 0 ≤ x * 2 ^ wy.toNat + y ∧ x * 2 ^ wy.toNat + y < 2 ^ (wx + wy).toNat := by
  have hp := PySem.W.kbt_pos wy.toNat
  have e : (2 : Int) ^ (wx + wy).toNat = 2 ^ wx.toNat * 2 ^ wy.toNat := by rw [← Int.pow_add]; congr 1; omega
  have n0 := Int.mul_nonneg hx0 (Int.le_of_lt hp)
  have n1 := Int.mul_le_mul_of_nonneg_right (show x + 1 ≤ 2 ^ wx.toNat by omega) (Int.le_of_lt hp)
  rw [Int.add_mul, Int.one_mul] at n1
  rw [e]
  omega
section
variable {w : World} {b : BA} {ts : List Term} {ws : List Int} {c : Nat} {news nw : Led} {t wt x y wx wy : Int} {tk : Tok} {Nn : Addr}
theorem told_zext {many : Int} (h : MkT w b ts ws c news (Str.ofString "zero_extend") (.inl many) wt t nw) (hN : PrsIn nw Nn [(x, wx)]) (hx0 : 0 ≤ x) (hx1 : x < 2 ^ wx.toNat) (g1 : wx ≤ wt) (g2 : 1 ≤ wt) (g3 : wt ≤ 150) : Spec w 768 12 nw [.ref b.M.B, .int t tk, .ref Nn] fun r n => n = nw ∧ isI x r :=
  told_of h hN rfl g2 g3 ⟨hx0, Int.lt_of_lt_of_le hx1 (pow_le_pow_i g1)⟩ fun _ _ _ hx h0 s0 hw' => works1 fun _ _ _ _ hb hV hT => spec_bits_zext w hb h0 s0 hw' g2 g3 hV hT hx
theorem told_sext {many : Int} (h : MkT w b ts ws c news (Str.ofString "sign_extend") (.inl many) (wx + many) t nw) (hN : PrsIn nw Nn [(x, wx)]) (g1 : 1 ≤ wx) (g2 : 0 ≤ many) (g3 : wx + many ≤ 150) : Spec w 768 12 nw [.ref b.M.B, .int t tk, .ref Nn] fun r n => n = nw ∧ isI (signed x wx % 2 ^ (wx + many).toNat) r :=
  have g4 : 1 ≤ wx + many := Int.le_trans g1 (Int.le_add_of_nonneg_right g2)
  told_of h hN rfl g4 g3 (mod_range _ _) fun _ _ _ hx h0 s0 hw' => works1 fun _ _ _ _ hb hV hT => spec_bits_sext w hb h0 s0 hw' g4 g3 hV hT hx g2 g1 g3
theorem told_conc (h : MkT w b ts ws c news (Str.ofString "concat") (.inl 0) wt t nw) (hN : PrsIn nw Nn [(x, wx), (y, wy)]) (hx0 : 0 ≤ x) (hx1 : x < 2 ^ wx.toNat) (hy0 : 0 ≤ y) (hy1 : y < 2 ^ wy.toNat) (g0 : 1 ≤ wx) (g1 : 1 ≤ wy) (g2 : wx + wy = wt) (g3 : wt ≤ 150) : Spec w 768 12 nw [.ref b.M.B, .int t tk, .ref Nn] fun r n => n = nw ∧ isI (x * 2 ^ wy.toNat + y) r := by
  subst g2
  have g4 : 1 ≤ wx + wy := by omega
  exact told_of h hN rfl g4 g3 (conc_range (by omega) (by omega) hx0 hx1 hy0 hy1) fun _ _ _ hx h0 s0 hw' => works2 fun _ _ _ _ _ hb hV hT hU => spec_bits_conc w hb h0 s0 hw' g4 g3 hV hT hU hx (by omega) (by omega) (bits140 hx0 hx1 (by omega)) hy0 hy1
end

theorem storeC_op {M : Model} {A : Around} {E : Value → Shared → Prop} {s : Shared} {h₀ : Heap} {L a c : Addr} {m : Str → Option Value} {news : Led} {cn : Str} {cs : Scope} {ccd : Value} {cl : List (Str × Addr)} {x : Str} {v : Value} {v₀ : Option Value} {o : Obj} {Q : Unit → Shared → Prop}
   (F : Fr h₀ L s.heap m) (N : News h₀ L s.heap news) (hc : cl.lookup x = some c) (hm : (c, o) ∈ news) (hd : o.data = .cell v₀)
   (h : ∀ h' o', Fr h₀ L h' m → News h₀ L h' ((c, o') :: less c news) → o'.data = .cell (some v) → Q () { s with heap := h' })
   (hk : cs.kind = .function := by rfl) (hx : (envX cn cs L a ccd cl).kindOf x = some .cell := by rfl) : wpAny M A (storeName (envX cn cs L a ccd cl) x v) Q E s :=
  storeX_C (o := o) (news := (c, o) :: less c news) (g := fun o' => (c, o') :: less c news) F (fun p hp => by
    rcases List.mem_cons.mp hp with rfl | hp
    · exact N _ hm
    · exact N _ (mem_less.mp hp).1) hc (UpdF.head fun p hp => (mem_less.mp hp).2) hd h hk hx
theorem lift_less {c : Addr} {T : Led} {o : Obj} {e : Addr × Obj} (he : e ∈ T) (hn : @Ne Nat e.1 c) : e ∈ (c, o) :: less c T := .tail _ (mem_less.mpr ⟨he, hn⟩)
theorem less_cell {h₀ h : Heap} {L I : Addr} {T : Led} {it : Obj} {v : Option Value} (N : News h₀ L h T) (hI : (I, it) ∈ T) (hd : it.data = .cell v) {W : Nat} (hW : @LT.lt Nat _ W I) {p : Addr × Obj} (hp : p ∈ T) (q : IsT p.2 ∨ @LE.le Nat _ p.1 W) : p ∈ less I T := by
  refine mem_less.mpr ⟨hp, fun e => ?_⟩
  rcases q with q | q
  · have h1 := (N p hp).1
    have h2 := (N _ hI).1
    have e' : p.1 = I := e
    rw [e'] at h1
    have h3 := Option.some.inj (h1.symm.trans h2)
    rw [h3] at q
    obtain ⟨_, vs, n, hd'⟩ := q
    rw [show (I, it).2 = it from rfl, hd] at hd'
    cases hd'
  · exact Nat.lt_irrefl _ (Nat.lt_of_le_of_lt (e ▸ q) hW)

abbrev Cx.to {S : Scope} (c : Cx S) (ts : List Term) (ws : List Int) : Cx S := { c with ts0 := ts, ws0 := ws }
inductive MadeV (w : World) (b : BA) (ts : List Term) (ws : List Int) (c : Nat) (news : Led) (V : List Term → List Int → Value → Prop) (r : Value) (nw : Led) : Prop
  | mk (ts' : List Term) (ws' : List Int) (hb : FB w b ts' ws' c nw) (hs : ts <+: ts') (hv : ws <+: ws') (hk : Kept b news nw) (h : V ts' ws' r) : MadeV w b ts ws c news V r nw
def isTm (op : Str) (dat : Sum Int (Int × Int)) (wt : Int) : List Term → List Int → Value → Prop := fun ts ws u => ∃ t, isI t u ∧ TM ts ws t op dat wt
def isSo (wt : Int) : List Term → List Int → Value → Prop := fun _ ws u => ∃ j, isI j u ∧ SortIs ws j wt
def isApp (wt : Int) : List Term → List Int → Value → Prop := fun ts ws u => ∃ k, isTm (Str.ofString "app") (.inl k) wt ts ws u
theorem MadeS.v {w : World} {b : BA} {ts : List Term} {ws : List Int} {c : Nat} {news nw : Led} {op : Str} {dat : Sum Int (Int × Int)} {wt : Int} {r : Value} (h : MadeS w b ts ws c news op dat wt r nw) : MadeV w b ts ws c news (isTm op dat wt) r nw :=
  let ⟨t, tk, ts', ws', j, hr, _, hb, hs, hv, hx, hw, hk⟩ := h
  ⟨ts', ws', hb, hs, hv, hk, t, ⟨tk, hr⟩, j, Int.natCast_nonneg _, hx, Int.natCast_nonneg _, hw⟩
theorem SortR.v {w : World} {b : BA} {ts : List Term} {ws : List Int} {c : Nat} {news nw : Led} {wt : Int} {r : Value} (h : SortR w b ts ws c news wt r nw) : MadeV w b ts ws c news (isSo wt) r nw :=
  let ⟨j, tk, ws', hr, hb, hv, hx, hk⟩ := h
  ⟨ts, ws', hb, List.prefix_refl _, hv, hk, j, ⟨tk, hr⟩, Int.natCast_nonneg _, hx⟩
theorem Made.v {w : World} {b : BA} {ts : List Term} {ws : List Int} {c : Nat} {news nw : Led} {k j wt : Int} {r : Value} (q : SortIs ws j wt) (h : Made w b ts ws c news (Str.ofString "app", j, .inl k) r nw) : MadeV w b ts ws c news (isApp wt) r nw :=
  let ⟨t, tk, ts', hr, _, hb, hs, hx, hk⟩ := h
  let ⟨p, hw⟩ := q
  ⟨ts', ws, hb, hs, List.prefix_refl _, hk, k, t, ⟨tk, hr⟩, j, Int.natCast_nonneg _, hx, p, hw⟩
theorem bm_concat {w : World} : BM w "concat" 688 := ⟨by kernel_rfl, by kernel_rfl, by kernel_rfl, by kernel_rfl⟩
theorem bm_zext {w : World} : BM w "zero_extend" 702 := ⟨by kernel_rfl, by kernel_rfl, by kernel_rfl, by kernel_rfl⟩
theorem bm_sext {w : World} : BM w "sign_extend" 709 := ⟨by kernel_rfl, by kernel_rfl, by kernel_rfl, by kernel_rfl⟩
theorem bm_fresh {w : World} : BM w "fresh_const" 277 := ⟨by kernel_rfl, by kernel_rfl, by kernel_rfl, by kernel_rfl⟩
section
variable {S : Scope} {c : Cx S} {env : Env} {P R : Addr × Obj → Prop} {l : FL} {n n1 n2 n3 : Nat} {V : List Term → List Int → Value → Prop} {news : Led} {ts : List Term} {ws : List Int} {u : Value}
theorem Cx.I.fewer (h : c.I P n news) (q : ∀ p, R p → P p) : c.I R n news := ⟨h.1, fun p hp => h.2 p (q p hp)⟩
theorem Cx.I.back (h : (c.to ts ws).I P n news) (h1 : c.ts0 <+: ts) (h2 : c.ws0 <+: ws) : c.I P n news := ⟨let ⟨ts', ws', k, a, b, d, e⟩ := h.w; ⟨ts', ws', k, a, b, h1.trans d, h2.trans e⟩, h.2⟩
inductive ToW (c : Cx S) (P : Addr × Obj → Prop) (n : Nat) (V : List Term → List Int → Value → Prop) (u : Value) (nw : Led) : Prop
  | mk (ts : List Term) (ws : List Int) (i : (c.to ts ws).I P n nw) (h1 : c.ts0 <+: ts) (h2 : c.ws0 <+: ws) (hV : V ts ws u) : ToW c P n V u nw
@[irreducible] def EvW (c : Cx S) (env : Env) (P : Addr × Obj → Prop) (l : FL) (e : PySem.Expr) (V : List Term → List Int → Value → Prop) (n n' : Nat) : Prop := Eg c.fx env l (c.I P n) e (ToW c P n' V)
theorem Cx.I.to {V : List Term → List Int → Value → Prop} (h : c.I P n news) (hV : ∀ ts ws, c.ts0 <+: ts → c.ws0 <+: ws → V ts ws u) : ToW c P n V u news :=
  let ⟨ts, ws, k, a, b, d, e⟩ := h.w
  ⟨ts, ws, ⟨⟨ts, ws, k, a, b, List.prefix_refl _, List.prefix_refl _⟩, h.2⟩, d, e, hV ts ws d e⟩
theorem Ev.evW {e : PySem.Expr} {V : Value → Prop} (h : Ev c env P l e V n n1) : EvW c env P l e (fun _ _ => V) n n1 := by with_unfolding_all exact eg_mono h fun _ _ j => j.2.to fun _ _ _ _ => j.1
theorem Ev.tm {e : PySem.Expr} {op : Str} {dat : Sum Int (Int × Int)} {t wt : Int} (h : Ev c env P l e (isI t) n n1) (q : TM c.ts0 c.ws0 t op dat wt) : EvW c env P l e (isTm op dat wt) n n1 := by with_unfolding_all exact eg_mono h fun _ _ j => j.2.to fun _ _ h1 h2 => ⟨t, j.1, q.mono h1 h2⟩
theorem egl_to {es : List PySem.Expr} {J : List Value → Led → Prop} (h : ∀ ts ws, c.ts0 <+: ts → c.ws0 <+: ws → V ts ws u → EgL c.fx env l ((c.to ts ws).I P n) es J) : EgL c.fx env l (ToW c P n V u) es J := by with_unfolding_all exact fun pos m s nw Q E fo F N i ret => let ⟨ts, ws, i, h1, h2, hV⟩ := i; h ts ws h1 h2 hV pos m s nw Q E fo F N i ret
theorem sx_to {ss : List Stmt} {R : Flow → (Str → Option Value) → Led → Prop} (h : ∀ ts ws, c.ts0 <+: ts → c.ws0 <+: ws → V ts ws u → Sx c.fx ((c.to ts ws).I P n) l ss R) : Sx c.fx (ToW c P n V u) l ss R := by with_unfolding_all exact fun m s nw Q fo F N i ret => let ⟨ts, ws, i, h1, h2, hV⟩ := i; h ts ws h1 h2 hV m s nw Q fo F N i ret
theorem sp_to {f : Addr} {sz d : Nat} {vs : List Value} (i : c.I P n news) (hn : Nat.ble n 1000 = true) (h : ∀ ts ws k, FB c.w c.b ts ws k news → c.ts0 <+: ts → c.ws0 <+: ws → k ≤ 991000 → Spec c.w f sz news vs (MadeV c.w c.b ts ws (k + d) news V)) : Spec c.w f sz news vs (ToW c P (n + d) V) :=
  let ⟨ts, ws, k, hw, hk⟩ := i.w
  (h ts ws k hw.fb hk.2.1 hk.2.2 (Nat.le_trans hk.1 (Nat.add_le_add c.hc0 (Nat.le_of_ble_eq_true hn)))).mono fun _ _ ⟨ts', ws', fb, h1, h2, hkp, hV⟩ =>
    ⟨ts', ws', ⟨⟨ts', ws', k + d, hw.next fb h1 h2 hkp, Nat.le_trans (Nat.add_le_add_right hk.1 d) (Nat.le_of_eq (Nat.add_assoc _ _ _)), List.prefix_refl _, List.prefix_refl _⟩, fun p hp => ⟨(i.2 p hp).1, hkp p (i.2 p hp).2 (i.2 p hp).1⟩⟩, hk.2.1.trans h1, hk.2.2.trans h2, hV⟩
theorem ToW.of {c' : Cx S} (h1 : c.ts0 <+: ts) (h2 : c.ws0 <+: ws) {nw : Led} (e : c' = c.to ts ws) (h : ToW c' P n V u nw) : ToW c P n V u nw := by
  subst e
  obtain ⟨ts', ws', i, r1, r2, hV⟩ := h
  exact ⟨ts', ws', i, h1.trans r1, h2.trans r2, hV⟩
variable {eb e1 e2 e3 : PySem.Expr} {p1 p2 p3 : Pos} {t t2 wt wu : Int} {op oq nm : Str} {dat daq : Sum Int (Int × Int)}
theorem ev_methW {f : Addr} {sz : Nat} {e : PySem.Expr} {es : List PySem.Expr} {JA : List Value → Led → Prop} (M : BM c.w nm f) (hl : ∀ es, AF c.b es → getL nm es = some none) (hz : Nat.ble sz 29 = true) (hb : Ev c env P l eb (isR c.b.M.B) n n) (hu : (e :: es).all unstarred = true) (ha : EgL c.fx env l (c.I P n) (e :: es) JA) (hs : ∀ vs nw, JA vs nw → Spec c.w f sz nw (.ref c.b.M.B :: vs) (ToW c P n2 V)) (he : Meth0 eb nm p1 p2 (e :: es) env) :
    EvW c env P l (.Call (.Attribute eb nm p1) (e :: es) [] p2) V n n2 := by with_unfolding_all exact eg_meth M hb (fun nw i => let ⟨_, _, _, hw, _⟩ := i.w; hw.fb.field hl) hz hu ha (fun vs nw _ _ j => hs vs nw j) he
theorem ev_extract {high low : Int} (hb : Ev c env P l eb (isR c.b.M.B) n n) (hu : [e1, e2, e3].all unstarred = true) (ha : EvL c env P l [e1, e2, e3] [isI high, isI low, isI t] n n1) (h : TM c.ts0 c.ws0 t op dat wt) (h0 : 0 ≤ low) (h1 : low ≤ high) (h2 : high < wt) (h3 : wt ≤ 4096) (hn : Nat.ble n1 1000 = true)
    (he : Meth0 eb (Str.ofString "extract") p1 p2 [e1, e2, e3] env) : EvW c env P l (.Call (.Attribute eb (Str.ofString "extract") p1) [e1, e2, e3] [] p2) (isTm (Str.ofString "extract") (.inr (high, low)) (high - low + 1)) n (n1 + 2) := by with_unfolding_all exact ev_methW (sz := 4) bm_extract (fun es af => af.extract) rfl hb hu ha (fun vs nw j => pt_elim (ps := [.I high, .I low, .I t]) (P := fun vs => Spec c.w 695 4 nw (.ref c.b.M.B :: vs) _) (fun _ _ _ => sp_to j.2 hn fun ts ws k fb q1 q2 hk => let ⟨_, p, a1, a2, a3⟩ := h.mono q1 q2; (spec_extract c.w fb (Nat.le_trans (Nat.add_le_add_right hk 2) (Nat.le_of_ble_eq_true rfl)) p a1 a2 a3 (by omega) h0 h1 h2 h3).mono fun _ _ q => q.v) j.1) he
theorem ev_zext {many : Int} (hb : Ev c env P l eb (isR c.b.M.B) n n) (hu : [e1, e2].all unstarred = true) (ha : EvL c env P l [e1, e2] [isI many, isI t] n n1) (h : TM c.ts0 c.ws0 t op dat wt) (h1 : 0 < wt) (hm : 1 ≤ many) (h3 : wt + many ≤ 4096) (hn : Nat.ble n1 1000 = true)
    (he : Meth0 eb (Str.ofString "zero_extend") p1 p2 [e1, e2] env) : EvW c env P l (.Call (.Attribute eb (Str.ofString "zero_extend") p1) [e1, e2] [] p2) (isTm (Str.ofString "zero_extend") (.inl many) (wt + many)) n (n1 + 2) := by with_unfolding_all exact ev_methW (sz := 4) bm_zext (fun es af => af.zero_extend) rfl hb hu ha (fun vs nw j => pt_elim (ps := [.I many, .I t]) (P := fun vs => Spec c.w 702 4 nw (.ref c.b.M.B :: vs) _) (fun _ _ => sp_to j.2 hn fun ts ws k fb q1 q2 hk => let ⟨_, p, a1, a2, a3⟩ := h.mono q1 q2; (spec_zero_extend c.w fb (Nat.le_trans (Nat.add_le_add_right hk 2) (Nat.le_of_ble_eq_true rfl)) p a1 a2 a3 h1 hm h3).mono fun _ _ q => q.v) j.1) he
theorem ev_sext {many : Int} (hb : Ev c env P l eb (isR c.b.M.B) n n) (hu : [e1, e2].all unstarred = true) (ha : EvL c env P l [e1, e2] [isI many, isI t] n n1) (h : TM c.ts0 c.ws0 t op dat wt) (h1 : 0 < wt) (hm : 1 ≤ many) (h3 : wt + many ≤ 4096) (hn : Nat.ble n1 1000 = true)
    (he : Meth0 eb (Str.ofString "sign_extend") p1 p2 [e1, e2] env) : EvW c env P l (.Call (.Attribute eb (Str.ofString "sign_extend") p1) [e1, e2] [] p2) (isTm (Str.ofString "sign_extend") (.inl many) (wt + many)) n (n1 + 2) := by with_unfolding_all exact ev_methW (sz := 4) bm_sext (fun es af => af.sign_extend) rfl hb hu ha (fun vs nw j => pt_elim (ps := [.I many, .I t]) (P := fun vs => Spec c.w 709 4 nw (.ref c.b.M.B :: vs) _) (fun _ _ => sp_to j.2 hn fun ts ws k fb q1 q2 hk => let ⟨_, p, a1, a2, a3⟩ := h.mono q1 q2; (spec_sign_extend c.w fb (Nat.le_trans (Nat.add_le_add_right hk 2) (Nat.le_of_ble_eq_true rfl)) p a1 a2 a3 h1 hm h3).mono fun _ _ q => q.v) j.1) he
theorem ev_sort (hb : Ev c env P l eb (isR c.b.M.B) n n) (hu : unstarred e1 = true) (ha : Ev c env P l e1 (isI wt) n n1) (h1 : 1 ≤ wt) (h2 : wt ≤ 4096) (hn : Nat.ble n1 1000 = true)
    (he : Meth0 eb (Str.ofString "bv_sort") p1 p2 [e1] env) : EvW c env P l (.Call (.Attribute eb (Str.ofString "bv_sort") p1) [e1] [] p2) (isSo wt) n (n1 + 1) := by with_unfolding_all exact ev_methW (sz := 2) bm_bv_sort (fun es af => af.bv_sort) rfl hb (Bool.and_eq_true_iff.mpr ⟨hu, rfl⟩) (eil_cons hu ha eil_nil) (fun vs nw j => pt_elim (ps := [.I wt]) (P := fun vs => Spec c.w 646 2 nw (.ref c.b.M.B :: vs) _) (fun _ => sp_to j.2 hn fun ts ws k fb q1 q2 hk => (spec_bv_sort c.w fb (Nat.lt_of_le_of_lt hk (Nat.le_of_ble_eq_true rfl)) h1 h2).mono fun _ _ q => q.v) j.1) he
inductive TwoTm (c : Cx S) (P : Addr × Obj → Prop) (n : Nat) (op : Str) (dat : Sum Int (Int × Int)) (wt : Int) (oq : Str) (daq : Sum Int (Int × Int)) (wu : Int) (vs : List Value) (nw : Led) : Prop
  | mk (ts : List Term) (ws : List Int) (t u : Int) (k1 k2 : Tok) (e : vs = [.int t k1, .int u k2]) (i : (c.to ts ws).I P n nw) (q1 : c.ts0 <+: ts) (q2 : c.ws0 <+: ws) (m1 : TM ts ws t op dat wt) (m2 : TM ts ws u oq daq wu) : TwoTm c P n op dat wt oq daq wu vs nw
theorem ev_concat (hb : Ev c env P l eb (isR c.b.M.B) n n) (hu : [e1, e2].all unstarred = true) (ha : EvW c env P l e1 (isTm op dat wt) n n1) (hc : ∀ ts ws, c.ts0 <+: ts → c.ws0 <+: ws → EvW (c.to ts ws) env P l e2 (isTm oq daq wu) n1 n2) (h1 : 0 < wt) (h2 : 0 < wu) (h3 : wt + wu ≤ 4096) (hn : Nat.ble n2 1000 = true)
    (he : Meth0 eb (Str.ofString "concat") p1 p2 [e1, e2] env) : EvW c env P l (.Call (.Attribute eb (Str.ofString "concat") p1) [e1, e2] [] p2) (isTm (Str.ofString "concat") (.inl 0) (wt + wu)) n (n2 + 2) := by
  with_unfolding_all
    exact have u1 := Bool.and_eq_true_iff.mp hu
      ev_methW (sz := 4) (JA := TwoTm c P n2 op dat wt oq daq wu) bm_concat (fun es af => af.concat) rfl hb hu (egl_cons u1.1 ha fun u => egl_to fun ts ws q1 q2 hV => egl_cons (Bool.and_eq_true_iff.mp u1.2).1 (hc ts ws q1 q2) fun v => egl_to (c := c.to ts ws) fun ts2 ws2 r1 r2 hV2 => egl_nil fun nw i =>
          let ⟨t, ⟨k1, f1⟩, m1⟩ := hV
          let ⟨t2, ⟨k2, f2⟩, m2⟩ := hV2
          ⟨ts2, ws2, t, t2, k1, k2, by rw [f1, f2], i, q1.trans r1, q2.trans r2, m1.mono r1 r2, m2⟩) (fun vs nw j => by
        obtain ⟨ts, ws, t, u, k1, k2, e, i, q1, q2, m1, m2⟩ := j
        subst e
        refine (sp_to (c := c.to ts ws) i hn fun ts' ws' k fb r1 r2 hk => ?_).mono fun _ _ q => q.of q1 q2 rfl
        obtain ⟨_, p, a1, a2, a3⟩ := m1.mono r1 r2
        obtain ⟨_, p', b1, b2, b3⟩ := m2.mono r1 r2
        exact (spec_concat c.w fb (Nat.le_trans (Nat.add_le_add_right hk 2) (Nat.le_of_ble_eq_true rfl)) p a1 a2 a3 h1 p' b1 b2 b3 h2 h3).mono fun _ _ q => q.v) he
theorem ev_fresh {k : Nat} (hb : Ev c env P l eb (isR c.b.M.B) n n) (hu : unstarred e2 = true) (hc : EvW c env P l e2 (isSo wt) n n2) (hn : Nat.ble n2 1000 = true)
    (he : Meth0 eb (Str.ofString "fresh_const") p1 p2 [.Constant (.str nm) k p3, e2] env) : EvW c env P l (.Call (.Attribute eb (Str.ofString "fresh_const") p1) [.Constant (.str nm) k p3, e2] [] p2) (isApp wt) n (n2 + 2) := by
  with_unfolding_all
    exact ev_methW (sz := 4) (JA := fun vs nw => ∃ tk v, vs = [.str nm tk, v] ∧ ToW c P n2 (isSo wt) v nw) bm_fresh (fun es af => af.fresh_const) rfl hb (Bool.and_eq_true_iff.mpr ⟨rfl, Bool.and_eq_true_iff.mpr ⟨hu, rfl⟩⟩) (egl_cons rfl (J1 := fun u nw => isS nm u ∧ c.I P n nw) ei_str fun u => egl_and fun hs => egl_cons hu hc fun v => egl_nil fun nw i => let ⟨tk, e⟩ := hs; ⟨tk, v, by rw [e], i⟩) (fun vs nw j => by
        obtain ⟨tk, v, e, ts, ws, i, q1, q2, j, ⟨k2, f⟩, m⟩ := j
        subst e f
        exact (sp_to (c := c.to ts ws) i hn fun ts' ws' k fb r1 r2 hk => (spec_fresh c.w fb (Nat.le_trans (Nat.add_le_add_right hk 2) (Nat.le_of_ble_eq_true rfl))).mono fun _ _ q => let ⟨_, q⟩ := q; q.v (let ⟨p, a⟩ := m; ⟨p, get_prefix r2 a⟩)).mono fun _ _ q => q.of q1 q2 rfl) he
inductive PEv (c : Cx S) (env : Env) (l : FL) (P : Addr × Obj → Prop) : List PySem.Expr → List (Int × Int) → Nat → Nat → Prop
  | nil {n : Nat} : PEv c env l P [] [] n n
  | cons {ex ew : PySem.Expr} {k : Nat} {p : Pos} {es : List PySem.Expr} {x m : Int} {ps : List (Int × Int)} {n n1 n2 : Nat} (h : ∀ ts ws, c.ts0 <+: ts → c.ws0 <+: ws → ∀ P' : Addr × Obj → Prop, (∀ p, P p → P' p) → EvL (c.to ts ws) env P' l [ex, ew] [isI x, isI m] n n1) (hs : PEv c env l P es ps n1 n2) : PEv c env l P (.Tuple [ex, ew] k p :: es) ((x, m) :: ps) n n2
theorem egl_prsW {es : List PySem.Expr} {ps : List (Int × Int)} (h : PEv c env l P es ps n n2) : ∀ ts ws, c.ts0 <+: ts → c.ws0 <+: ws → ∀ P' : Addr × Obj → Prop, (∀ p, P p → P' p) → EgL c.fx env l ((c.to ts ws).I P' n) es (PrsL ((c.to ts ws).I P' n2) ps) := by
  with_unfolding_all
    induction h with
    | nil => exact fun ts ws q1 q2 P' hP => egl_nil fun nw i => ⟨[], rfl, trivial, i⟩
    | cons h hs ih =>
      intro ts ws q1 q2 P' hP
      refine egl_cons rfl (eg_tuple (h ts ws q1 q2 P' hP) fun vs nw j => by rw [alls_len j.1]; exact Nat.le_of_ble_eq_true rfl) fun u => egl_ex fun D => egl_ex fun vs => egl_ex fun n0 => egl_and fun hu => ?_
      refine fun pos m s nw Q E fo F N i ret => ?_
      obtain ⟨e, j, _⟩ := i
      obtain ⟨v1, v2, e3, h3, h4⟩ := alls2 j.1
      subst e3
      refine ih ts ws q1 q2 (fun p => P' p ∨ p = (D, tupO #[v1, v2] 0)) (fun p hp => .inl (hP p hp)) pos m s nw Q E fo F N ⟨by rw [e]; exact j.2.cons.1, fun p hp => hp.elim (fun hp => by rw [e]; exact j.2.cons.2 p hp) fun q => by rw [q, e]; exact ⟨.inl rfl, .head _⟩⟩ fun vs2 nw2 h' tk' F' N' k => ?_
      obtain ⟨qs, e4, hq, i2⟩ := k
      exact ret _ nw2 h' tk' F' N' ⟨(D, v1, v2) :: qs, by rw [hu, e4]; rfl, ⟨⟨0, (i2.2 _ (.inr rfl)).2⟩, ⟨h3, h4⟩, hq⟩, i2.fewer fun p hp => .inl hp⟩
structure TmA (c : Cx S) (op : Str) (dat : Sum Int (Int × Int)) (wt : Int) where
  ts : List Term
  ws : List Int
  t : Int
  q1 : c.ts0 <+: ts
  q2 : c.ws0 <+: ws
  tm : TM ts ws t op dat wt
theorem ev_told {et : PySem.Expr} {es : List PySem.Expr} {ps : List (Int × Int)} {v : Int} (hf : ∀ I : Led → Prop, Ei c.fx env l I (.Name (Str.ofString "_law_told") p1) (isR 768) I) (hu : [eb, et].all unstarred = true) (hb : Ev c env P l eb (isR c.b.M.B) n n) (ht : EvW c env P l et (isTm op dat wt) n n1) (hp : PEv c env l P es ps n1 n2) (hlen : Nat.ble ps.length 1000 = true)
    (hs : ∀ {ts ws k news t tk Nn}, MkT c.w c.b ts ws k news op dat wt t news → PrsIn news Nn ps → Spec c.w 768 12 news [.ref c.b.M.B, .int t tk, .ref Nn] fun r nw => nw = news ∧ isI v r) :
    Ev c env P l (.Call (.Name (Str.ofString "_law_told") p1) [eb, et, .List es p2] [] p3) (isI v) n n2 := by
  with_unfolding_all
    exact eg_mono (eg_told (tm := TmA.t) (K := fun (a : TmA c op dat wt) nw => (c.to a.ts a.ws).I P n1 nw) (K' := fun a nw => (c.to a.ts a.ws).I P n2 nw) (hf _) rfl hu hb (eg_mono ht fun u nw j => let ⟨ts, ws, i, q1, q2, t, e, m⟩ := j; ⟨⟨ts, ws, t, q1, q2, m⟩, e, i⟩) (fun a e nw i => i.cons) (fun a => egl_prsW hp a.ts a.ws a.q1 a.q2 P fun _ q => q) hlen fun a tk Nn nw i hN =>
        let ⟨ts', ws', _, hw, _, r1, r2⟩ := i.w
        let ⟨so, p, a1, a2, a3⟩ := a.tm.mono r1 r2
        hs (MkT.mk ts' ws' so hw.fb (List.prefix_refl _) (List.prefix_refl _) p a1 a2 a3 Kept.refl) hN) fun u nw j => ⟨j.1, let ⟨a, i⟩ := j.2; i.back a.q1 a.q2⟩
end

section
variable {S : Scope} {c : Cx S} {env : Env} {P P' R : Addr × Obj → Prop} {l l' : FL} {n n1 n2 n3 : Nat} {x : Str} {p1 p2 : Pos} {e : PySem.Expr} {ss : List Stmt} {V : Value → Prop} {U : List Term → List Int → Value → Prop}
theorem sx_mono {w : World} {z : Nat} {c : Fx w S z} {I : Led → Prop} {R R' : Flow → (Str → Option Value) → Led → Prop} (h : Sx c I l ss R) (q : ∀ f m nw, R f m nw → R' f m nw) : Sx c I l ss R' := by with_unfolding_all exact fun m s news Q fo F N i ret => h m s news Q fo F N i fun f nw h' m' tk' F' N' r => ret f nw h' m' tk' F' N' (q f m' nw r)
@[irreducible] def ExR (c : Cx S) (P R : Addr × Obj → Prop) (l : FL) (ss : List Stmt) (V : Value → Prop) (n n' : Nat) : Prop := Si c.fx (c.I P n) l ss V (c.I R n')
theorem ExR.si {ss : List Stmt} {V : Value → Prop} {n n1 : Nat} (h : ExR c P R l ss V n n1) : Si c.fx (c.I P n) l ss V (c.I R n1) := by with_unfolding_all exact h
theorem Ex.r (h : Ex c P l ss V n n1) (q : ∀ p, R p → P p) : ExR c P R l ss V n n1 := by with_unfolding_all exact sr_mono h fun _ _ j => ⟨j.1, j.2.fewer q⟩
theorem exr_ifF {t : PySem.Expr} {body : List Stmt} (h : EvT c c.env P l t false n n1) (hs : ExR c P R l ss V n1 n2) : ExR c P R l (.If t body [] p1 :: ss) V n n2 := by with_unfolding_all exact sr_ifF h hs
theorem exr_setW (hn : swapsWith e (some (.Name x p1)) p2.line c.env = pure false) (hx : c.env.kindOf x = some .local) (h : EvW c c.env P l e U n n1)
    (hs : ∀ ts ws v, c.ts0 <+: ts → c.ws0 <+: ws → U ts ws v → ExR (c.to ts ws) P R ((x, fun u => u = v) :: l) ss V n1 n2) : ExR c P R l (.Assign [.Name x p1] e p2 :: ss) V n n2 := by with_unfolding_all exact sr_set hn hx h fun u => sx_to fun ts ws q1 q2 hu => sr_mono (hs ts ws u q1 q2 hu) fun _ _ j => ⟨j.1, j.2.back q1 q2⟩
theorem exn_setW (hn : swapsWith e (some (.Name x p1)) p2.line c.env = pure false) (hx : c.env.kindOf x = some .local) (h : EvW c c.env P l e U n n1)
    (hs : ∀ ts ws v, c.ts0 <+: ts → c.ws0 <+: ws → U ts ws v → ExN (c.to ts ws) P ((x, fun u => u = v) :: l) ss l' n1 n2) : ExN c P l (.Assign [.Name x p1] e p2 :: ss) l' n n2 := by with_unfolding_all exact sr_set hn hx h fun u => sx_to fun ts ws q1 q2 hu => sx_mono (hs ts ws u q1 q2 hu) fun _ _ _ j => ⟨j.1, j.2.1, j.2.2.back q1 q2⟩
theorem Cx.I.cell {a : Addr} {o o' : Obj} {v0 : Option Value} {h₀ h : Heap} {L : Addr} {news : Led} (i : c.I P n news) (N : News h₀ L h news) (hP : P (a, o)) (hd : o.data = .cell v0) (haW : @LT.lt Nat _ c.W a) : c.I (fun p => (P p ∧ @Ne Nat p.1 a) ∨ p = (a, o')) n ((a, o') :: less a news) :=
  let ⟨ts', ws', k, hw, q⟩ := i.w
  ⟨⟨ts', ws', k, (hw.off fun _ hp q => less_cell N (i.2 _ hP).2 hd haW hp q).cons, q⟩, fun p hp => hp.elim (fun hp => ⟨(i.2 _ hp.1).1, lift_less (i.2 _ hp.1).2 hp.2⟩) fun e => by rw [e]; exact ⟨.inr (.inl (Nat.lt_trans hw.above haW)), .head _⟩⟩
theorem exr_setC {a : Addr} {o : Obj} {v0 : Option Value} (hl : c.fx.cl.lookup x = some a) (hP : P (a, o)) (hd : o.data = .cell v0) (haW : @LT.lt Nat _ c.W a)
    (hn : swapsWith e (some (.Name x p1)) p2.line c.env = pure false) (hx : c.env.kindOf x = some .cell) (h : EvW c c.env P l e U n n1)
    (hs : ∀ ts ws v o', c.ts0 <+: ts → c.ws0 <+: ws → U ts ws v → o'.data = .cell (some v) → ExR (c.to ts ws) (fun p => (P p ∧ @Ne Nat p.1 a) ∨ p = (a, o')) R l ss V n1 n2) : ExR c P R l (.Assign [.Name x p1] e p2 :: ss) V n n2 := by
  with_unfolding_all
    exact fun m s news Q fo F N I ret =>
      wpAny_execs_cons (wpAny_Assign_Name (h m s news _ _ fo F N I fun u nw h' tk' F' N' j => by
        obtain ⟨ts, ws, i, q1, q2, hu⟩ := j
        exact storeC_op F' N' hl (i.2 _ hP).2 hd (fun h2 o' F2 N2 d2 => sr_mono (hs ts ws u o' q1 q2 hu d2) (fun _ _ j => ⟨j.1, j.2.back q1 q2⟩) m _ _ Q fo F2 N2 (i.cell N' hP hd haW) ret) c.fx.hk hx) hn)
theorem exr_tup4 {y z w : Str} {p3 p4 p5 p6 p7 : Pos} {k1 k2 : Nat} {e1 e2 e3 e4 : PySem.Expr} {U1 U2 U3 U4 : Value → Prop} {a b : Addr} {oa ob : Obj} {va vb : Option Value}
    (hx : c.env.kindOf x = some .cell) (hy : c.env.kindOf y = some .cell) (hz : c.env.kindOf z = some .local) (hw : c.env.kindOf w = some .local)
    (hla : c.fx.cl.lookup x = some a) (hlb : c.fx.cl.lookup y = some b) (hab : @Ne Nat b a) (hPa : P (a, oa)) (hPb : P (b, ob)) (hda : oa.data = .cell va) (hdb : ob.data = .cell vb) (haW : @LT.lt Nat _ c.W a) (hbW : @LT.lt Nat _ c.W b)
    (hs1 : swapsWithSole [.Tuple [.Name x p1, .Name y p2, .Name z p3, .Name w p4] k1 p5] (.Tuple [e1, e2, e3, e4] k2 p6) p7.line c.env = pure false) (hs2 : swappedStores [.Tuple [.Name x p1, .Name y p2, .Name z p3, .Name w p4] k1 p5] (.Tuple [e1, e2, e3, e4] k2 p6) c.env = pure none)
    (h : EvL c c.env P l [e1, e2, e3, e4] [U1, U2, U3, U4] n n1)
    (hs : ∀ v1 v2 o1 o2, U1 v1 → U2 v2 → o1.data = .cell (some v1) → o2.data = .cell (some v2) → ExR c (fun p => (((P p ∧ @Ne Nat p.1 a) ∨ p = (a, o1)) ∧ @Ne Nat p.1 b) ∨ p = (b, o2)) R ((w, U4) :: (z, U3) :: l) ss V n1 n2) :
    ExR c P R l (.Assign [.Tuple [.Name x p1, .Name y p2, .Name z p3, .Name w p4] k1 p5] (.Tuple [e1, e2, e3, e4] k2 p6) p7 :: ss) V n n2 := by
  with_unfolding_all
    exact fun m s news Q fo F N I ret =>
      wpAny_execs_cons (Assign_Tuple (Tuple_ (h _ m s news _ _ fo F N I fun vs news' h' tk' F' N' j => by
        obtain ⟨v1, v2, v3, v4, hv9, q1, q2, q3, q4⟩ := alls4 j.1
        subst hv9
        refine kup_newTuple F' N' (fun D h2 F2 N2 _ => assign_Tuple_tuple rfl (News.isTup N2 (.head _)) rfl rfl fun h3 he => ?_) (by show 4 ≤ sizeLine; decide)
        have F3 := F2.extBut he (Nat.le_refl _)
        have N3 := N2.extBut he (Nat.le_refl _)
        have I3 := j.2.cons (e := (D, ({ cls := .type "tuple", data := .seq [v1, v2, v3, v4].toArray } : Obj)))
        refine assignInOrder_cons (assign_Name (storeC_op F3 N3 hla (I3.2 _ hPa).2 hda (fun h4 o1 F4 N4 d1 => assignInOrder_cons (assign_Name ?_)) c.fx.hk hx))
        have I4 := I3.cell (o' := o1) N3 hPa hda haW
        exact storeC_op F4 N4 hlb (I4.2 _ (.inl ⟨hPb, hab⟩)).2 hdb (fun h5 o2 F5 N5 d2 => assignInOrder_cons (assign_Name (storeX_L F5 N5 (fun h6 F6 N6 => assignInOrder_cons (assign_Name (storeX_L F6 N6 (fun h7 F7 N7 => assignInOrder_nil (hs v1 v2 o1 o2 q1 q2 d1 d2 _ _ _ Q ((fo.set q3).set q4) F7 N7 (I4.cell N4 (.inl ⟨hPb, hab⟩) hdb hbW) ret)) c.fx.hk hw))) c.fx.hk hz))) c.fx.hk hy)) hs1 hs2)
theorem EvT.le {t : PySem.Expr} {β : Bool} (h : EvT c env P l t β n n1) (q : n1 ≤ n2) : EvT c env P l t β n n2 := by with_unfolding_all exact fun m s news Q E fo F N I ret => h m s news Q E fo F N I fun nw h' tk' F' N' i => ret nw h' tk' F' N' (i.le' q)
theorem exr_up (h : ExR c P R l ss V n1 n2) (q : Nat.ble n n1 = true) : ExR c P R l ss V n n2 := by with_unfolding_all exact sr_pre h fun _ i => i.le q
theorem exr_fok (h : ExR c P R l' ss V n n1) (q : ∀ m, FOk l m → FOk l' m) : ExR c P R l ss V n n1 := by with_unfolding_all exact fun m s news Q fo F N I ret => h m s news Q (q m fo) F N I ret
theorem exr_ifN {t : PySem.Expr} {body : List Stmt} {q : Prop} (hq : Decidable q) (h : EvT c c.env P l t (decide q) n n1) (hb : q → ExN c P l body l n1 n2) (h12 : Nat.ble n1 n2 = true) (hs : ExR c P R l ss V n2 n3) : ExR c P R l (.If t body [] p1 :: ss) V n n3 := by
  with_unfolding_all
    cases hq with
    | isFalse hn => exact exr_ifF h (exr_up hs h12)
    | isTrue hy => exact sr_ifN h (hb hy) hs
theorem evt_gt {a b : PySem.Expr} {i j : Int} (ha : Ev c env P l a (isI i) n n1) (hb : Ev c env P l b (isI j) n1 n2) : EvT c env P l (.Compare a [.Gt] [b] p1) (decide (i > j)) n n2 := by with_unfolding_all exact ti_gtI ha hb
theorem ev_mul {a b : PySem.Expr} {i j : Int} (ha : Ev c env P l a (isI i) n n1) (hb : Ev c env P l b (isI j) n1 n2) (hm : IntMulOk i j) : Ev c env P l (.BinOp a .Mult b p1) (isI (i * j)) n n2 := by with_unfolding_all exact ep_mulI ha hb hm
theorem FOk.drop {V : Value → Prop} (hl : l.lookup x = none) {m : Str → Option Value} (h : FOk ((x, V) :: l) m) : FOk l m := fok_skip h hl
inductive CellAt (P : Addr × Obj → Prop) (a : Addr) (V : Value → Prop) : Prop
  | mk (o : Obj) (v : Value) (h1 : P (a, o)) (h2 : o.data = .cell (some v)) (h3 : V v) : CellAt P a V
theorem CellAt.mono {a : Addr} (h : CellAt P a V) (q : ∀ p, P p → P' p) : CellAt P' a V := let ⟨o, v, h2, h3, h4⟩ := h; ⟨o, v, q _ h2, h3, h4⟩
theorem CellAt.set {a a' : Addr} {o : Obj} (h : CellAt P a V) (q : @Ne Nat a a') : CellAt (fun p => (P p ∧ @Ne Nat p.1 a') ∨ p = (a', o)) a V := let ⟨o, v, h2, h3, h4⟩ := h; ⟨o, v, .inl ⟨h2, q⟩, h3, h4⟩
theorem CellAt.is {a : Addr} {cl : List (Str × Addr)} (h : CellAt P a V) (q : cl.lookup x = some a) : CellIs cl P x V := let ⟨o, v, h2, h3, h4⟩ := h; ⟨a, o, v, q, h2, h3, h4⟩
theorem CellAt.free {a : Addr} {scope : Scope} {cl : List (Str × Addr)} (h : CellAt P a V) (q : cl.lookup x = some a) (hx : ∀ C, (compEnvC scope cl C env).kindOf x = some .cell) (hd : (x == ("__debug__" : Str)) = false) : FreeIs env P scope cl x V := let ⟨o, v, h2, h3, h4⟩ := h; ⟨a, o, v, q, h2, h3, h4, hx, hd⟩
end

def ValsAt (vals : Nat → Int) (ys : List Value) : Prop := ∀ (j : Nat) y, ys[j]? = some y → isI (vals j) y
theorem snoc_vals {vals : Nat → Int} {i : Nat} {ys : List Value} {y : Value} (hl : ys.length = i) (h : ValsAt vals ys) (hy : isI (vals i) y) : ValsAt vals (ys ++ [y]) := by
  intro j z hz
  rcases Nat.lt_or_ge j ys.length with q | q
  · rw [List.getElem?_append_left q] at hz; exact h j z hz
  · rw [List.getElem?_append_right q] at hz
    rcases Nat.eq_or_lt_of_le q with r | r
    · rw [← r, Nat.sub_self] at hz
      obtain rfl := Option.some.inj hz
      rw [← r, hl]; exact hy
    · rw [List.getElem?_eq_none (by simp; omega)] at hz; cases hz
theorem ints_vals {vals : Nat → Int} : ∀ (n : Nat) (ys : List Value), ys.length = n → ValsAt vals ys → IntsAre ys ((List.range n).map vals)
  | 0, ys, hl, _ => by rw [List.length_eq_zero_iff.mp hl]; exact .nil
  | n + 1, ys, hl, h => by
    have hne : ys ≠ [] := fun e => by rw [e] at hl; cases hl
    have hd := ints_vals n ys.dropLast (by simp [hl]) fun j y hj => by
      have hlt : j < ys.dropLast.length := (List.getElem?_eq_some_iff.mp hj).1
      exact h j y (by rw [← hj, List.getElem?_dropLast, if_pos (by simpa using hlt)])
    obtain ⟨t, ht⟩ := h n (ys.getLast hne) (by rw [List.getLast_eq_getElem]; simp [hl])
    rw [← List.dropLast_concat_getLast hne, List.range_succ, List.map_append, ht]
    exact hd.append (.cons _ _ .nil)
theorem bits_sum {x : Int} : ∀ n : Nat, ((List.range n).map fun j : Nat => 2 ^ ((j : Int)).toNat * cut x j j).sum = bsum x n
  | 0 => rfl
  | n + 1 => by
    rw [List.range_succ, List.map_append, List.sum_append, bits_sum n]
    simp only [List.map_cons, List.map_nil, List.sum_cons, List.sum_nil, Int.add_zero, cut_one, Int.toNat_natCast]
    rfl
theorem sum_at {prog : Program} {w : World} {A : Around} {E : Value → Shared → Prop} {s : Shared} {h₀ : Heap} {L D : Addr} {m : Str → Option Value} {news : Led} {ys : List Value} {vals : Nat → Int} {n k2 : Nat} {v : Int} {Q : Value → Shared → Prop} (hh : A.handled = none) (F : Fr h₀ L s.heap m) (N : News h₀ L s.heap news) (hm : (D, listOf (List.toArray ys) k2) ∈ news)
    (hl : ys.length = n) (hy : ValsAt vals ys) (hs : ((List.range n).map vals).sum = v)
    (h : ∀ h' tk t', Fr h₀ L h' m → News h₀ L h' news → Q (.int v t') { s with heap := h', toks := tk }) :
    wpAny (model prog w) A (call (.builtin "sum") [.ref D]) Q E s := by
  subst hs
  exact sumK hh F N ⟨_, N.get hm, rfl, _, rfl⟩ (ints_vals n ys hl hy) h
theorem ne2_at {prog : Program} {w : World} {A : Around} {E : Value → Shared → Prop} {s : Shared} {h₀ : Heap} {L a b : Addr} {news : Led} {x0 x1 : Int} {t0 t1 u0 u1 : Tok} {n n' : Nat} {Q : Value → Shared → Prop} (N : News h₀ L s.heap news)
   (ha : (a, listOf #[.int x0 t0, .int x1 t1] n) ∈ news) (hb : (b, listOf #[.int x0 u0, .int x1 u1] n') ∈ news) (hu : A.units + 64 < cLine) (h : Q (.bool false) s) : wpAny (model prog w) A (compareOp .NotEq (.ref a) (.ref b)) Q E s :=
  ne_intsK (vs := [.int x0 t0, .int x1 t1]) (us := [.int x0 u0, .int x1 u1]) (ns := [x0, x1]) (ms := [x0, x1]) ⟨_, N.get ha, rfl, n, rfl⟩ (.cons _ _ (.cons _ _ .nil)) ⟨_, N.get hb, rfl, n', rfl⟩ (.cons _ _ (.cons _ _ .nil)) hu (by simpa using h)
section
variable {S : Scope} {c : Cx S} {env : Env} {P : Addr × Obj → Prop} {l : FL} {n n1 n2 n3 n4 : Nat} {scope : Scope} {cl : List (Str × Addr)} {elt : PySem.Expr} {st : Nat}
theorem turn_le {k : Nat} {N i : Nat} (hn : c.c0 + k + st * N ≤ 990000) (hi : i < N) : c.c0 + (k + st * i) ≤ 990000 := Nat.le_trans (Nat.le_trans (Nat.add_le_add_left (Nat.add_le_add_left (Nat.mul_le_mul_left st (Nat.le_of_lt hi)) _) _) (Nat.le_of_eq (Nat.add_assoc _ _ _).symm)) hn
theorem evs_range {ew : PySem.Expr} {x : Str} {px p2 p3 pos : Pos} {vals : Nat → Int} {wd0 : Int} (hkd : scope.kind = .function) (hclos : closureFor scope c.env = pure cl) (hcell : ∀ y ∈ scope.names, y.2 ≠ .cell)
    (hnames : ∀ y ∈ scope.names, y.2 = .local → scope.names.lookup y.1 = some .local) (hx : scope.names.lookup x = some .local) (hr : Ev c c.env P l (.Name (Str.ofString "range") p2) (isTy "range") n n) (hu : unstarred ew = true) (hw : Ev c c.env P l ew (isI wd0) n n1) (h0 : 0 ≤ wd0) (h1 : wd0 ≤ 1000) (hn : c.c0 + n1 + st * wd0.toNat ≤ 990000)
    (steps : ∀ i : Nat, (i : Int) < wd0 → EvC c P scope cl x (isI i) elt (isI (vals i)) st) (hfold : ∀ v, foldedSetIterable (.Call (.Name (Str.ofString "range") p2) [ew] [] p3) c.env v = pure v) :
    EvF c c.env P l (.ListComp elt [⟨.Name x px, .Call (.Name (Str.ofString "range") p2) [ew] [] p3, [], 0⟩] scope pos) (fun ys => ys.length = wd0.toNat ∧ ValsAt vals ys) n (n1 + st * wd0.toNat) := by
  with_unfolding_all
    exact fun m s news Q E fo F N I ret => by
      refine ListComp_G F hclos hcell hkd hnames (Call_ (hr m s news _ _ fo F N I fun u news0 hp0 tk0 F0 N0 j0 => ?_)) hfold
      obtain rfl : u = .type "range" := j0.1
      refine PyProof.Rows.callWith_type1 (args_cons (hw m _ news0 _ _ fo F0 N0 j0.2 fun u' news' h' tk' F' N' j => ?_) (star_of hu _)) (star_of hu _) rfl
      obtain ⟨⟨t1, e1⟩, I'⟩ := j
      subst e1
      refine args_nil (range1_rows F' N' fun h2 tk2 t2 u2 v2 hR F2 N2 _ => ?_)
      refine srcR (n := wd0.toNat) (fun i ys nw => c.I P (n1 + st * i) nw ∧ ys.length = i ∧ ValsAt vals ys) rfl F2 N2 hR ?sm ?rs ?sz hkd hx ⟨I', rfl, fun j y h => by cases h⟩ ?step ?fin
      case sm => simp [Builtin.Range.small, Builtin.Range.rangeFitsLong, rangeSize_nat]; omega
      case rs => rw [rangeSize_nat]; simp
      case sz => exact Nat.le_trans (Int.toNat_le.mpr h1 : wd0.toNat ≤ 1000) (by decide)
      case step =>
        intro g I0 ord9 i ys nw oI C oC D2 m₂ h tk E' hi ma Ij kI hoC F8 N8 off8 ne8 ord8
        obtain ⟨tj, hmv⟩ := ma
        exact comp_turn (X := fun _ => False) (turn_le hn hi) Ij.1 (fun _ q => q.elim) kI (by simp) hoC F8 N8 off8 I' ord8 (fun P' q _ qC => steps i (by omega) _ (turn_le hn hi) P' C oC m₂ _ q qC hoC hmv ⟨tj, by rw [Int.zero_add]⟩) fun y nw' hy i' _ => ⟨by rw [Nat.mul_succ, ← Nat.add_assoc]; exact i', by rw [List.length_append, Ij.2.1]; rfl, snoc_vals Ij.2.1 Ij.2.2 hy⟩
      case fin =>
        intro g ys nw Ij D2 h tk F9 N9 of1
        exact ret _ _ h tk F9 N9 ⟨⟨D2, ys, ys.length, rfl, .head _, Ij.1.newL (off1_mem of1), Ij.2⟩, Ij.1.cons⟩
theorem ev_sum {p1 p2 : Pos} {e : PySem.Expr} {vals : Nat → Int} {k : Nat} {v : Int} (hf : Ev c env P l (.Name (Str.ofString "sum") p1) (isBl "sum") n n) (hu : unstarred e = true) (h : EvF c env P l e (fun ys => ys.length = k ∧ ValsAt vals ys) n n1) (hv : ((List.range k).map vals).sum = v) :
    Ev c env P l (.Call (.Name (Str.ofString "sum") p1) [e] [] p2) (isI v) n n1 := by
  with_unfolding_all
    exact fun m s news Q E fo F N I ret =>
      Call_ (hf m s news _ E fo F N I fun u news0 h0 tk0 F0 N0 j0 => by
        obtain rfl : u = .builtin "sum" := j0.1
        exact PyProof.Rows.callWith_builtin1 (args_cons (h m _ news0 _ E fo F0 N0 j0.2 fun u news' h' tk' F' N' j => by
          obtain ⟨⟨D, ys, k2, e, hm, _, hy⟩, I'⟩ := j
          subst e
          exact args_nil (sum_at rfl F' N' hm hy.1 hy.2 hv fun h2 tk2 t2 F2 N2 => ret _ news' h2 tk2 F2 N2 ⟨⟨t2, rfl⟩, I'⟩)) (star_of hu _)) (star_of hu _) rfl)
def EvC2 (c : Cx S) (P : Addr × Obj → Prop) (scope : Scope) (cl : List (Str × Addr)) (x y : Str) (i j : Int) (elt : PySem.Expr) (W : Value → Prop) (st : Nat) : Prop :=
  ∀ (k : Nat) (hk : c.c0 + k ≤ 990000) (P' : Addr × Obj → Prop) (C : Addr) (oC : Obj) (m₂ : Str → Option Value) (v u : Value), (∀ p, P p → P' p) → P' (C, oC) → LCg.NsObj oC m₂ → m₂ x = some v → m₂ y = some u → isI i v → isI j u → Ev (c.up k hk) (compEnvC scope cl C c.env) P' [] elt W 0 st
inductive Steps2 (c : Cx S) (P : Addr × Obj → Prop) (scope : Scope) (cl : List (Str × Addr)) (x y : Str) (elt : PySem.Expr) (st : Nat) : List (Int × Int) → List (Value → Prop) → Prop
  | nil : Steps2 c P scope cl x y elt st [] []
  | cons {W : Value → Prop} {i j : Int} {ps : List (Int × Int)} {Ws : List (Value → Prop)} (h : EvC2 c P scope cl x y i j elt W st) (hs : Steps2 c P scope cl x y elt st ps Ws) : Steps2 c P scope cl x y elt st ((i, j) :: ps) (W :: Ws)
theorem Steps2.at {x y : Str} {ps : List (Int × Int)} {Ws : List (Value → Prop)} (h : Steps2 c P scope cl x y elt st ps Ws) : Ws.length = ps.length ∧ ∀ (i : Nat) (p : Int × Int), ps[i]? = some p → ∃ W, Ws[i]? = some W ∧ EvC2 c P scope cl x y p.1 p.2 elt W st := by
  with_unfolding_all
    induction h with
    | nil => exact ⟨rfl, fun i v h => by cases h⟩
    | cons h1 h2 ih =>
      refine ⟨congrArg (· + 1) ih.1, fun i v h => ?_⟩
      cases i with
      | zero =>
        obtain rfl := Option.some.inj h
        exact ⟨_, rfl, h1⟩
      | succ i => exact ih.2 i v h
theorem evs_comp2 {es : List PySem.Expr} {ps : List (Int × Int)} {Ws : List (Value → Prop)} {x y : Str} {px py tp p3 pos : Pos} {kk k3 : Nat} (hkd : scope.kind = .function) (hclos : closureFor scope c.env = pure cl) (hcell : ∀ y ∈ scope.names, y.2 ≠ .cell)
    (hnames : ∀ y ∈ scope.names, y.2 = .local → scope.names.lookup y.1 = some .local) (hx : scope.names.lookup x = some .local) (hy : scope.names.lookup y = some .local) (hxy : ¬ x = y) (hp : PEv c c.env l P es ps n n1) (hlen : Nat.ble ps.length 1000 = true) (hn : c.c0 + n1 + st * ps.length ≤ 990000)
    (steps : Steps2 c P scope cl x y elt st ps Ws) (hfold : ∀ v, foldedSetIterable (.Tuple es k3 p3) c.env v = pure v) :
    EvS c c.env P l (.ListComp elt [⟨.Tuple [.Name x px, .Name y py] kk tp, .Tuple es k3 p3, [], 0⟩] scope pos) Ws n (n1 + st * ps.length) := by
  with_unfolding_all
    exact fun m s news Q E fo F N I ret => by
      refine ListComp_G F hclos hcell hkd hnames (Tuple_ (egl_prsW hp c.ts0 c.ws0 (List.prefix_refl _) (List.prefix_refl _) P (fun _ q => q) _ m s news _ _ fo F N I fun vs news' h' tk' F' N' j => ?_)) hfold
      obtain ⟨qs, e, hq, I'⟩ := j
      have I' : c.I P n1 news' := I'
      subst e
      have hz : qs.length ≤ sizeLine := Nat.le_trans (Nat.le_of_eq hq.prs.1) (Nat.le_trans (Nat.le_of_ble_eq_true hlen) (by decide))
      refine kup_newTuple F' N' (fun D h2 F2 N2 l2 => ?_) (by rw [List.length_map]; exact hz)
      have I2 := I'.cons (e := (D, ({ cls := .type "tuple", data := .seq (prsOf qs) } : Obj)))
      have hv := hq.prs.2.2
      refine srcTP (k := 0) (prs := qs) (fun i ys nw => c.I P (n1 + st * i) nw ∧ PairsAt D (tupO (prsOf qs) 0) qs nw ∧ Alls (Ws.take i) ys) rfl F2 N2 ⟨.head _, fun p hp => (hq.prs.2.1 p hp).imp fun _ q => .tail _ q⟩ hz hkd hx hy hxy (fun i ys nw q => q.2.1) ⟨I2, ⟨.head _, fun p hp => (hq.prs.2.1 p hp).imp fun _ q => .tail _ q⟩, by rw [List.take_zero]; exact trivial⟩ ?step ?fin
      case step =>
        intro g I0 ord9 i ys nw oI C oC D2 m₂ h tk E' hi ma Ij kI hoC F8 N8 off8 ne8 ord8
        obtain ⟨q, hqi, hma, hmb⟩ := ma
        have hi' : i < ps.length := hq.prs.1 ▸ hi
        have hpi := List.getElem?_eq_getElem hi'
        obtain ⟨W, hWi, hE⟩ := steps.at.2 i _ hpi
        have hv := hv i q _ hqi hpi
        exact comp_turn (X := fun p => p.2.cls = .type "tuple" ∧ p ∈ nw) (turn_le hn hi') Ij.1 (fun _ q => ⟨.inl q.1, q.2⟩) kI (by simp) hoC F8 N8 off8 I2 ord8 (fun P' q _ qC => hE _ (turn_le hn hi') P' C oC m₂ _ _ q qC hoC hma hmb hv.1 hv.2) fun y nw' hy i' hX => ⟨by rw [Nat.mul_succ, ← Nat.add_assoc]; exact i', ⟨hX _ ⟨rfl, Ij.2.1.1⟩, fun p hp => (Ij.2.1.2 p hp).imp fun _ q => hX _ ⟨rfl, q⟩⟩, alls_snoc Ij.2.2 hWi hy⟩
      case fin =>
        intro g ys nw Ij D2 h tk F9 N9 of1
        rw [hq.prs.1, ← steps.at.1, List.take_length, steps.at.1] at Ij
        exact ret _ _ h tk F9 N9 ⟨⟨D2, ys, ys.length, rfl, .head _, Ij.1.newL (off1_mem of1), Ij.2.2⟩, Ij.1.cons⟩
theorem evt_neL {a b : PySem.Expr} {p : Pos} {a1 a2 b1 b2 : Int} (ha : EvS c env P l a [isI a1, isI a2] n n1) (hb : ∀ P' : Addr × Obj → Prop, (∀ p, P p → P' p) → EvS c env P' l b [isI b1, isI b2] n1 n2) (e : a1 = b1 ∧ a2 = b2) :
    EvT c env P l (.Compare a [.NotEq] [b] p) false n n2 := by
  with_unfolding_all
    exact fun m s news Q E fo F N I ret =>
      wpAny_isTrue_Compare1 (ha m s news _ E fo F N I fun u n1 h' tk' F' N' j1 => by
        obtain ⟨⟨D, ys, k, eu, hm1, hK, hy⟩, i1⟩ := j1
        subst eu
        exact hb (fun p => P p ∨ p = (D, listOf (List.toArray ys) k)) (fun p hp => .inl hp) m _ n1 _ E fo F' N' ⟨i1.1, fun p hp => hp.elim (i1.2 p) fun e => by rw [e]; exact ⟨hK, hm1⟩⟩ fun v n2 h2 tk2 F2 N2 j2 => by
          obtain ⟨⟨D2, ys2, k2, eu, hm2, _, hy2⟩, i2⟩ := j2
          obtain ⟨v1, v2, e1, ⟨t1, q1⟩, ⟨t2, q2⟩⟩ := alls2 hy
          obtain ⟨w1, w2, e2, ⟨u1, r1⟩, ⟨u2, r2⟩⟩ := alls2 hy2
          subst eu e1 e2 q1 q2 r1 r2
          obtain ⟨rfl, rfl⟩ := e
          refine ne2_at N2 (i2.2 _ (.inr rfl)).2 hm2 ?_ (wpAny_truthy_bool (ret n2 h2 _ F2 N2 ⟨i2.1, fun p hp => i2.2 p (.inl hp)⟩))
          have := c.fx.units
          show c.fx.un + 64 < cLine
          omega) (marks_of rfl)
end

noncomputable abbrev S814 : Scope := scopeOf (pickS 46)
structure Cu (c : Cx S814) (P R : Addr × Obj → Prop) (x y k more : Int) : Prop where
  hx : InR c.wd x
  hy : InR c.wd y
  k0 : 0 ≤ k
  k1 : k < c.wd
  m1 : 1 ≤ more
  m2 : more ≤ 5
  w1 : 1 ≤ c.wd
  w2 : c.wd ≤ 70
  hc : c.c0 ≤ 900000
  cl : c.fx.cl = cellsFrom (c.fx.L + 1) S814.names []
  hW : @LT.lt Nat _ c.W c.fx.L
  low : ∀ p, R p → @LE.le Nat _ p.1 c.fx.L
  R : ∀ p, R p → P p
  cW : CellAt P (c.fx.L + 1) (isR c.W)
  cX : CellAt P (c.fx.L + 1 + 1) (isI x)
  cB : CellAt P (c.fx.L + 1 + 1 + 1) (isR c.b.M.B)
  cN : CellAt P (c.fx.L + 1 + 1 + 1 + 1) (isI c.wd)
  ta : TmI c.ts0 c.ws0 c.ta c.wd
  tb : TmI c.ts0 c.ws0 c.tb c.wd
section
variable {c : Cx S814} {P R : Addr × Obj → Prop} {x y k more : Int}
theorem Cu.more_ (h : Cu c P R x y k more) {P' : Addr × Obj → Prop} (q : ∀ p, P p → P' p) : Cu c P' R x y k more :=
  { h with R := fun p hp => q p (h.R p hp), cW := h.cW.mono q, cX := h.cX.mono q, cB := h.cB.mono q, cN := h.cN.mono q }
theorem Cu.to (h : Cu c P R x y k more) {ts : List Term} {ws : List Int} (q1 : c.ts0 <+: ts) (q2 : c.ws0 <+: ws) : Cu (c.to ts ws) P R x y k more :=
  { h with ta := h.ta.imp fun _ q => q.imp fun _ q => q.mono q1 q2, tb := h.tb.imp fun _ q => q.imp fun _ q => q.mono q1 q2 }
theorem Cu.set (h : Cu c P R x y k more) {a : Addr} {o : Obj} (q : @LT.lt Nat _ (c.fx.L + 1 + 1 + 1 + 1) a) : Cu c (fun p => (P p ∧ @Ne Nat p.1 a) ∨ p = (a, o)) R x y k more :=
  have q1 := Nat.lt_of_succ_lt q
  have q2 := Nat.lt_of_succ_lt q1
  have q3 := Nat.lt_of_succ_lt q2
  { h with
    R := fun p hp => .inl ⟨h.R p hp, Nat.ne_of_lt (Nat.lt_of_le_of_lt (h.low p hp) (Nat.lt_of_succ_lt q3))⟩
    cW := h.cW.set (Nat.ne_of_lt q3)
    cX := h.cX.set (Nat.ne_of_lt q2)
    cB := h.cB.set (Nat.ne_of_lt q1)
    cN := h.cN.set (Nat.ne_of_lt q) }
theorem Cu.isW (h : Cu c P R x y k more) : CellIs c.fx.cl P (Str.ofString "world") (isR c.W) := h.cW.is (by rw [h.cl]; rfl)
theorem Cu.isX (h : Cu c P R x y k more) : CellIs c.fx.cl P (Str.ofString "x") (isI x) := h.cX.is (by rw [h.cl]; rfl)
theorem Cu.isB (h : Cu c P R x y k more) : CellIs c.fx.cl P (Str.ofString "bank") (isR c.b.M.B) := h.cB.is (by rw [h.cl]; rfl)
theorem Cu.isN (h : Cu c P R x y k more) : CellIs c.fx.cl P (Str.ofString "width") (isI c.wd) := h.cN.is (by rw [h.cl]; rfl)
variable {l : FL} {n n1 n2 : Nat} {p1 p2 p3 p4 p5 p6 p7 p8 p9 pA pB pC pD pE pF : Pos} {k1 k2 : Nat}
theorem Cu.eB (h : Cu c P R x y k more) : Ev c c.env P l (.Name (Str.ofString "bank") p1) (isR c.b.M.B) n n := ev_cell h.isB (by kernel_rfl) (by decide)
theorem Cu.eX (h : Cu c P R x y k more) : Ev c c.env P l (.Name (Str.ofString "x") p1) (isI x) n n := ev_cell h.isX (by kernel_rfl) (by decide)
theorem Cu.eN (h : Cu c P R x y k more) : Ev c c.env P l (.Name (Str.ofString "width") p1) (isI c.wd) n n := ev_cell h.isN (by kernel_rfl) (by decide)
theorem Cu.eW (h : Cu c P R x y k more) : Ev c c.env P l (.Name (Str.ofString "world") p1) (isR c.W) n n := ev_cell h.isW (by kernel_rfl) (by decide)
theorem ev_toldN (I : Led → Prop) : Ei c.fx c.env l I (.Name (Str.ofString "_law_told") p1) (isR 768) I := ei_toldN (by kernel_rfl)
theorem Cu.xw (h : Cu c P R x y k more) (ts : List Term) (ws : List Int) (q1 : c.ts0 <+: ts) (q2 : c.ws0 <+: ws) (P' : Addr × Obj → Prop) (q : ∀ p, P p → P' p) : EvL (c.to ts ws) c.env P' l [.Name (Str.ofString "x") p1, .Name (Str.ofString "width") p2] [isI x, isI c.wd] n n :=
  have g := (h.more_ q).to q1 q2
  evl_cons rfl g.eX (evl_cons rfl g.eN evl_nil)
theorem Cu.zext (h : Cu c P R x y k more) (lm : l.lookup (Str.ofString "more") = some (isI more)) (la : l.lookup (Str.ofString "a") = some (isI c.ta)) (hn : Nat.ble n 1000 = true) (he : Meth0 (.Name (Str.ofString "bank") p3) (Str.ofString "zero_extend") p4 p7 [.Name (Str.ofString "more") p5, .Name (Str.ofString "a") p6] c.env) :
    Ev c c.env P l (.Call (.Name (Str.ofString "_law_told") p1) [.Name (Str.ofString "bank") p2, .Call (.Attribute (.Name (Str.ofString "bank") p3) (Str.ofString "zero_extend") p4) [.Name (Str.ofString "more") p5, .Name (Str.ofString "a") p6] [] p7, .List [.Tuple [.Name (Str.ofString "x") p8, .Name (Str.ofString "width") p9] k1 pA] pB] [] pC) (isI x) n (n + 2) := by
  obtain ⟨op, dat, tm⟩ := h.ta
  have w1 := h.w1
  have w2 := h.w2
  have m1 := h.m1
  have m2 := h.m2
  exact ev_told ev_toldN rfl h.eB (ev_zext h.eB rfl (evl_cons rfl (ev_name lm (by kernel_rfl) (by decide)) (evl_cons rfl (ev_name la (by kernel_rfl) (by decide)) evl_nil)) tm (by omega) m1 (by omega) hn he) (.cons h.xw .nil) rfl
    fun hm hN => told_zext hm hN h.hx.1 h.hx.2 (by omega) (by omega) (by omega)
theorem Cu.sext (h : Cu c P R x y k more) {eu : PySem.Expr} {u : Int} (lm : l.lookup (Str.ofString "more") = some (isI more)) (la : l.lookup (Str.ofString "a") = some (isI c.ta)) (hn : Nat.ble n 1000 = true) (he : Meth0 (.Name (Str.ofString "bank") p3) (Str.ofString "sign_extend") p4 p7 [.Name (Str.ofString "more") p5, .Name (Str.ofString "a") p6] c.env)
    (hu : ∀ ts ws, c.ts0 <+: ts → c.ws0 <+: ws → ∀ P' : Addr × Obj → Prop, (∀ p, P p → P' p) → EvL (c.to ts ws) c.env P' l [eu, .Name (Str.ofString "width") p9] [isI u, isI c.wd] (n + 2) n2) :
    Ev c c.env P l (.Call (.Name (Str.ofString "_law_told") p1) [.Name (Str.ofString "bank") p2, .Call (.Attribute (.Name (Str.ofString "bank") p3) (Str.ofString "sign_extend") p4) [.Name (Str.ofString "more") p5, .Name (Str.ofString "a") p6] [] p7, .List [.Tuple [eu, .Name (Str.ofString "width") p9] k1 pA] pB] [] pC) (isI (signed u c.wd % 2 ^ (c.wd + more).toNat)) n n2 := by
  obtain ⟨op, dat, tm⟩ := h.ta
  have w1 := h.w1
  have w2 := h.w2
  have m1 := h.m1
  have m2 := h.m2
  exact ev_told ev_toldN rfl h.eB (ev_sext h.eB rfl (evl_cons rfl (ev_name lm (by kernel_rfl) (by decide)) (evl_cons rfl (ev_name la (by kernel_rfl) (by decide)) evl_nil)) tm (by omega) m1 (by omega) hn he) (.cons hu .nil) rfl
    fun hm hN => told_sext hm hN (by omega) (by omega) (by omega)
theorem Cu.conc (h : Cu c P R x y k more) {eu : PySem.Expr} {t u : Int} {op : Str} {dat : Sum Int (Int × Int)} (ht : TM c.ts0 c.ws0 t op dat more) (lh : l.lookup (Str.ofString "ahead") = some (isI t)) (la : l.lookup (Str.ofString "a") = some (isI c.ta)) (hn : Nat.ble n 1000 = true) (he : Meth0 (.Name (Str.ofString "bank") p3) (Str.ofString "concat") p4 p7 [.Name (Str.ofString "ahead") p5, .Name (Str.ofString "a") p6] c.env) (u0 : 0 ≤ u) (u1 : u < 2 ^ more.toNat)
    (hu : ∀ ts ws, c.ts0 <+: ts → c.ws0 <+: ws → ∀ P' : Addr × Obj → Prop, (∀ p, P p → P' p) → EvL (c.to ts ws) c.env P' l [eu, .Name (Str.ofString "more") p9] [isI u, isI more] (n + 2) (n + 2)) :
    Ev c c.env P l (.Call (.Name (Str.ofString "_law_told") p1) [.Name (Str.ofString "bank") p2, .Call (.Attribute (.Name (Str.ofString "bank") p3) (Str.ofString "concat") p4) [.Name (Str.ofString "ahead") p5, .Name (Str.ofString "a") p6] [] p7, .List [.Tuple [eu, .Name (Str.ofString "more") p9] k1 pA, .Tuple [.Name (Str.ofString "x") pD, .Name (Str.ofString "width") pE] k2 pF] pB] [] pC) (isI (u * 2 ^ c.wd.toNat + x)) n (n + 2) := by
  obtain ⟨op, dat, tm⟩ := h.ta
  have w1 := h.w1
  have w2 := h.w2
  have m1 := h.m1
  have m2 := h.m2
  exact ev_told ev_toldN rfl h.eB (ev_concat h.eB rfl ((ev_name lh (by kernel_rfl) (by decide)).tm ht) (fun ts ws q1 q2 => (ev_name (c := c.to ts ws) la (by kernel_rfl) (by decide)).tm (tm.mono q1 q2)) (by omega) (by omega) (by omega) hn he) (.cons hu (.cons h.xw .nil)) rfl
    fun hm hN => told_conc hm hN u0 u1 h.hx.1 h.hx.2 (by omega) (by omega) (by omega) (by omega)
end
section
variable {c : Cx S814} {P R : Addr × Obj → Prop} {x y k more : Int}
abbrev L814 (c : Cx S814) (y k more : Int) : FL := [(Str.ofString "b", isI c.tb), (Str.ofString "a", isI c.ta), (Str.ofString "more", isI more), (Str.ofString "k", isI k), (Str.ofString "y", isI y)]
theorem top_range {x j more : Int} : 0 ≤ cut x j j * (2 ^ more.toNat - 1) ∧ cut x j j * (2 ^ more.toNat - 1) < 2 ^ more.toNat := by
  have h0 := PySem.W.kbt_pos more.toNat
  have hT : 0 ≤ cut x j j ∧ cut x j j < 2 := by rw [cut_one]; exact ⟨Int.emod_nonneg _ (by decide), Int.emod_lt_of_pos _ (by decide)⟩
  rcases (show cut x j j = 0 ∨ cut x j j = 1 by omega) with q | q <;> rw [q] <;> omega
theorem cut_fits {x j i : Int} : IntMulOk (cut x j j) i := by
  have hT : 0 ≤ cut x j j ∧ cut x j j < 2 := by rw [cut_one]; exact ⟨Int.emod_nonneg _ (by decide), Int.emod_lt_of_pos _ (by decide)⟩
  exact IntMulOk.of_left (PySem.intBits_le_64 (by omega) (by omega))
theorem Cu.eC (h : Cu c P R x y k more) {l : FL} {n n1 n2 : Nat} {e1 e2 : PySem.Expr} {i j : Int} {p1 p2 p3 p4 : Pos} (hu : [e1, e2, .Name (Str.ofString "x") p3].all unstarred = true) (he1 : Ev c c.env P l e1 (isI i) n n1) (he2 : Ev c c.env P l e2 (isI j) n1 n2) (h0 : 0 ≤ j) (h1 : j ≤ i) (h2 : i < c.wd) (hn : Nat.ble n2 1000 = true) :
    Ev c c.env P l (.Call (.Name (Str.ofString "_law_cut") p1) [.Name (Str.ofString "world") p2, e1, e2, .Name (Str.ofString "x") p3] [] p4) (isI (cut x i j)) n (n2 + 2) :=
  ev_cut (ev_cutN (by kernel_rfl)) h.eW hu he1 he2 h.eX h0 h1 h2 hn
theorem cuts5 {t : Int} {op : Str} {dat : Sum Int (Int × Int)} (h : Cu c P R x y k more) (ht : TM c.ts0 c.ws0 t op dat more) : ExR c P R ((Str.ofString "ahead", isI t) :: L814 c y k more) ((bodyOf (pickS 46)).drop 7) (isB true) 200 220 := by
  have w1 := h.w1
  have w2 := h.w2
  have m1 := h.m1
  have m2 := h.m2
  have hm0 := PySem.W.kbt_pos more.toNat
  have tn1 : (c.wd - 1).toNat = c.wd.toNat - 1 := by omega
  have tn2 : (c.wd + more).toNat = c.wd.toNat + more.toNat := by omega
  have eS : signed x c.wd % 2 ^ (c.wd + more).toNat = cut x (c.wd - 1) (c.wd - 1) * (2 ^ more.toNat - 1) * 2 ^ c.wd.toNat + x := by
    unfold signed
    rw [cut_one, tn1, tn2]
    exact l_signed (by omega) h.hx.1 h.hx.2
  have eB : signed x c.wd % 2 ^ (c.wd + more).toNat + signed (one (Str.ofString "bvnot") x c.wd) c.wd % 2 ^ (c.wd + more).toNat = 2 ^ (c.wd + more).toNat - 1 := by
    unfold signed
    rw [one_bvnot, tn1, tn2]
    exact l_both (by omega) h.hx.1 h.hx.2
  have rX := h.hx
  have cW := h.isW
  have cX := h.isX
  have cN := h.isN
  apply Ex.r (q := h.R)
  apply ex_le
  · apply ex_ifF
    · exact evt_ne (h.zext rfl rfl rfl (meth0 rfl rfl rfl rfl)) (h.conc (u := 0) ht rfl rfl rfl (meth0 rfl rfl rfl rfl) (Int.le_refl _) hm0 fun ts ws q1 q2 P' q => evl_cons rfl ev_int (evl_cons rfl (ev_name (c := c.to ts ws) rfl (by kernel_rfl) (by decide)) evl_nil)) (by rw [Int.zero_mul, Int.zero_add])
    with_reducible apply ex_set
    · rfl
    · kernel_rfl
    · exact h.eC rfl (ev_sub h.eN ev_int) (ev_sub h.eN ev_int) (by omega) (Int.le_refl _) (by omega) rfl
    with_reducible apply ex_set
    · rfl
    · kernel_rfl
    · exact h.sext rfl rfl rfl (meth0 rfl rfl rfl rfl) h.xw
    with_reducible apply ex_ifF
    · exact evt_ne (ev_name rfl (by kernel_rfl) (by decide)) (h.conc ht rfl rfl rfl (meth0 rfl rfl rfl rfl) top_range.1 top_range.2 fun ts ws q1 q2 P' q => evl_cons rfl (ev_mul (ev_name (c := c.to ts ws) rfl (by kernel_rfl) (by decide)) (ev_sub (ev_pow2 ev_int (ev_name (c := c.to ts ws) rfl (by kernel_rfl) (by decide)) (by omega) (by omega)) ev_int) cut_fits) (evl_cons rfl (ev_name (c := c.to ts ws) rfl (by kernel_rfl) (by decide)) evl_nil)) eS
    with_reducible apply ex_ret
    exact ev_eqT (ev_add (ev_name rfl (by kernel_rfl) (by decide)) (h.sext rfl rfl rfl (meth0 rfl rfl rfl rfl) fun ts ws q1 q2 P' q => by
      have g := (h.more_ q).to q1 q2
      have cW := g.isW
      have cX := g.isX
      have cN := g.isN
      have rX : InR (c.to ts ws).wd x := h.hx
      k_extra "evl")) (ev_sub (ev_pow2 ev_int (ev_add h.eN (ev_name rfl (by kernel_rfl) (by decide))) (by omega) (by omega)) ev_int) eB
  · rfl
end

theorem FOk.imp {x : Str} {V V' : Value → Prop} {l : FL} (q : ∀ u, V u → V' u) (m : Str → Option Value) (h : FOk ((x, V) :: l) m) : FOk ((x, V') :: l) m := fun y U hy => by
  have h2 := h y
  rw [List.lookup_cons] at hy h2
  by_cases e : (y == x) = true
  · rw [e] at hy h2
    obtain rfl : V' = U := Option.some.inj hy
    obtain ⟨v, h3, h4⟩ := h2 V rfl
    exact ⟨v, h3, q v h4⟩
  · rw [Bool.not_eq_true] at e
    rw [e] at hy h2
    exact h2 U hy
theorem Ev.imp {S : Scope} {c : Cx S} {env : Env} {P : Addr × Obj → Prop} {l : FL} {n n1 : Nat} {e : PySem.Expr} {V V' : Value → Prop} (h : Ev c env P l e V n n1) (q : ∀ u, V u → V' u) : Ev c env P l e V' n n1 := by with_unfolding_all exact ei_imp h q
section
variable {c : Cx S814} {P R : Addr × Obj → Prop} {x y k more : Int} {scope : Scope} {cl : List (Str × Addr)}
theorem evc_told {hi lo t v wt : Int} {op : Str} {dat : Sum Int (Int × Int)} {k1 : Nat} {k2 : Tok} {p1 p2 p3 p4 p5 p6 p7 p8 p9 pA pB pC pD pE pF : Pos} (hkd : scope.kind = .function) (fB : FreeIs c.env P scope cl (Str.ofString "bank") (isR c.b.M.B)) (fO : FreeIs c.env P scope cl (Str.ofString "both") (isI t)) (fV : FreeIs c.env P scope cl (Str.ofString "wide") (isI v)) (fN : FreeIs c.env P scope cl (Str.ofString "width") (isI c.wd))
    (ho : ∀ C, (compEnvC scope cl C c.env).kindOf (Str.ofString "high") = some .local) (hl : ∀ C, (compEnvC scope cl C c.env).kindOf (Str.ofString "low") = some .local) (hf : ∀ C, (compEnvC scope cl C c.env).kindOf (Str.ofString "_law_told") = some .globalImplicit)
    (ht : TM c.ts0 c.ws0 t op dat wt) (h0 : 0 ≤ lo) (h1 : lo ≤ hi) (h2 : hi < wt) (h3 : wt ≤ 150)
    (he : ∀ C, Meth0 (.Name (Str.ofString "bank") p3) (Str.ofString "extract") p4 p5 [.Name (Str.ofString "high") p6, .Name (Str.ofString "low") p7, .Name (Str.ofString "both") p8] (compEnvC scope cl C c.env)) :
    EvC2 c P scope cl (Str.ofString "high") (Str.ofString "low") hi lo (.Call (.Name (Str.ofString "_law_told") p1) [.Name (Str.ofString "bank") p2, .Call (.Attribute (.Name (Str.ofString "bank") p3) (Str.ofString "extract") p4) [.Name (Str.ofString "high") p6, .Name (Str.ofString "low") p7, .Name (Str.ofString "both") p8] [] p5, .List [.Tuple [.Name (Str.ofString "wide") p9, .BinOp (.Constant (.int 2) k2 pA) .Mult (.Name (Str.ofString "width") pB) pC] k1 pD] pE] [] pF) (isI (cut v hi lo)) 2 := by
  with_unfolding_all
    intro k hk9 P' C oC m₂ u1 u2 hPP hC hN hm1 hm2 hv1 hv2
    have hb : ∀ n p, Ev (c.up k hk9) (compEnvC scope cl C c.env) P' [] (.Name (Str.ofString "bank") p) (isR c.b.M.B) n n := fun n p => ev_freeF (c := c.up k hk9) hkd (fB.mono hPP)
    have q3 : hi - lo + 1 ≤ 150 := by omega
    exact ev_told (c := c.up k hk9) (fun I m s nw Q E fo F N i ret => LCgL.ld_global F c.fx.X c.fx.T gl_told (ret _ nw s.heap s.toks F N ⟨rfl, i⟩) rfl hkd (hf C) (by decide)) rfl (hb _ _) (ev_extract (c := c.up k hk9) (hb _ _) rfl (evl_cons rfl (ev_own hC hN hm1 hv1 hkd (ho C) (by decide)) (evl_cons rfl (ev_own hC hN hm2 hv2 hkd (hl C) (by decide)) (evl_cons rfl (ev_freeF (c := c.up k hk9) hkd (fO.mono hPP)) evl_nil))) ht h0 h1 h2 (Int.le_trans h3 (by decide)) rfl (he C)) (.cons (fun ts ws q1 q2 P2 hP2 => evl_cons rfl (ev_freeF (c := (c.up k hk9).to ts ws) hkd (fV.mono fun p hp => hP2 p (hPP p hp))) (evl_cons rfl (ev_mul ev_int (ev_freeF (c := (c.up k hk9).to ts ws) hkd (fN.mono fun p hp => hP2 p (hPP p hp))) (IntMulOk.of_left (by decide))) evl_nil)) .nil) rfl
      fun hm hN => told_ext hm hN h0 h1 (by omega)
theorem cuts4 {t : Int} {op : Str} {dat : Sum Int (Int × Int)} (h : Cu c P R x y k more) (ht : TM c.ts0 c.ws0 t op dat (2 * c.wd)) (hV : CellAt P (c.fx.L + 1 + 1 + 1 + 1 + 1) (isI (x * 2 ^ c.wd.toNat + y))) (hO : CellAt P (c.fx.L + 1 + 1 + 1 + 1 + 1 + 1) (isI t)) : ExR c P R (L814 c y k more) ((bodyOf (pickS 46)).drop 5) (isB true) 170 220 := by
  have w1 := h.w1
  have w2 := h.w2
  have m1 := h.m1
  have m2 := h.m2
  have hcl := h.cl
  have hc := h.hc
  have hh := l_hi h.hx.1 h.hx.2 h.hy.1 h.hy.2
  have e1 : cut (x * 2 ^ c.wd.toNat + y) (2 * c.wd - 1) c.wd = x := by
    unfold cut
    rw [show 2 * c.wd - 1 - c.wd + 1 = c.wd by omega]
    exact hh.1
  have e2 : cut (x * 2 ^ c.wd.toNat + y) (c.wd - 1) 0 = y := by
    unfold cut
    rw [show c.wd - 1 - 0 + 1 = c.wd by omega]
    simp only [Int.toNat_zero, Int.pow_zero, Int.ediv_one]
    exact hh.2
  apply exr_ifF (n1 := 174)
  · refine evt_neL (a1 := cut (x * 2 ^ c.wd.toNat + y) (2 * c.wd - 1) c.wd) (a2 := cut (x * 2 ^ c.wd.toNat + y) (c.wd - 1) 0) (b1 := x) (b2 := y) (n1 := 174) (n2 := 174) ?_ ?_ ⟨e1, e2⟩
    · apply evs_comp2 (st := 2) (ps := [(2 * c.wd - 1, c.wd), (c.wd - 1, 0)]) (n1 := 170)
      · kernel_rfl
      · (show closureFor _ (envX c.fx.cn S814 c.fx.L c.fx.a c.fx.ccd c.fx.cl) = _; rw [hcl]; rfl)
      · decide
      · decide
      · rfl
      · rfl
      · decide
      · exact .cons (fun ts ws q1 q2 P' q => have g := (h.more_ q).to q1 q2; evl_cons rfl (ev_sub (ev_mul ev_int g.eN (IntMulOk.of_left (by decide))) ev_int) (evl_cons rfl g.eN evl_nil)) (.cons (fun ts ws q1 q2 P' q => have g := (h.more_ q).to q1 q2; evl_cons rfl (ev_sub g.eN ev_int) (evl_cons rfl ev_int evl_nil)) .nil)
      · rfl
      · show c.c0 + 170 + 2 * 2 ≤ 990000
        omega
      · exact .cons (evc_told (by kernel_rfl) (h.cB.free rfl (fun C => by kernel_rfl) (by decide)) (hO.free rfl (fun C => by kernel_rfl) (by decide)) (hV.free rfl (fun C => by kernel_rfl) (by decide)) (h.cN.free rfl (fun C => by kernel_rfl) (by decide)) (fun C => by kernel_rfl) (fun C => by kernel_rfl) (fun C => by kernel_rfl) ht (by omega) (by omega) (by omega) (by omega) (fun C => (meth0 rfl rfl rfl rfl))) (.cons (evc_told (by kernel_rfl) (h.cB.free rfl (fun C => by kernel_rfl) (by decide)) (hO.free rfl (fun C => by kernel_rfl) (by decide)) (hV.free rfl (fun C => by kernel_rfl) (by decide)) (h.cN.free rfl (fun C => by kernel_rfl) (by decide)) (fun C => by kernel_rfl) (fun C => by kernel_rfl) (fun C => by kernel_rfl) ht (by omega) (by omega) (by omega) (by omega) (fun C => (meth0 rfl rfl rfl rfl))) .nil)
      · intro v; rfl
    · intro P' q
      exact evs_list rfl (evl_cons rfl (h.more_ q).eX (evl_cons rfl (ev_name rfl (by kernel_rfl) (by decide)) evl_nil))
  with_reducible apply exr_setW (U := isApp more)
  · rfl
  · kernel_rfl
  · exact ev_fresh h.eB rfl (ev_sort h.eB rfl (ev_name rfl (by kernel_rfl) (by decide)) m1 (by omega) rfl (meth0 rfl rfl rfl rfl)) rfl (meth0 rfl rfl rfl rfl)
  · intro ts ws v q1 q2 hA
    obtain ⟨k', t', ⟨tk, hv⟩, tm⟩ := hA
    exact exr_fok (exr_up (cuts5 (h.to q1 q2) tm) rfl) (FOk.imp fun u hu => ⟨tk, hu.trans hv⟩)
theorem cuts3 {o : Obj} (h : Cu c P R x y k more) (hV : CellAt P (c.fx.L + 1 + 1 + 1 + 1 + 1) (isI (x * 2 ^ c.wd.toNat + y))) (hO : P (c.fx.L + 1 + 1 + 1 + 1 + 1 + 1, o)) (hd : o.data = .cell none) : ExR c P R (L814 c y k more) ((bodyOf (pickS 46)).drop 4) (isB true) 164 220 := by
  have w1 := h.w1
  have w2 := h.w2
  have hcl := h.cl
  have hW := h.hW
  apply exr_setC (a := c.fx.L + 1 + 1 + 1 + 1 + 1 + 1) (U := isApp (2 * c.wd))
  · rw [hcl]; rfl
  · exact hO
  · exact hd
  · exact Nat.lt_of_lt_of_le hW (by omega)
  · rfl
  · kernel_rfl
  · exact ev_fresh h.eB rfl (ev_sort h.eB rfl (ev_mul ev_int h.eN (IntMulOk.of_left (by decide))) (show 1 ≤ 2 * c.wd by omega) (show 2 * c.wd ≤ 4096 by omega) rfl (meth0 rfl rfl rfl rfl)) rfl (meth0 rfl rfl rfl rfl)
  · intro ts ws v o' q1 q2 hA hd'
    obtain ⟨k', t', ⟨tk, hv⟩, tm⟩ := hA
    exact exr_up (cuts4 ((h.to q1 q2).set (Nat.lt_succ_of_lt (Nat.lt_succ_self _))) tm (hV.set (Nat.ne_of_lt (Nat.lt_succ_self _))) ⟨o', v, .inr rfl, hd', tk, hv⟩) rfl
end

section
variable {c : Cx S814} {P R : Addr × Obj → Prop} {x y k more : Int} {scope : Scope} {cl : List (Str × Addr)}
theorem evc_bit {i : Nat} {k2 : Tok} {p1 p2 p3 p4 p5 p6 p7 p8 p9 pA : Pos} (hkd : scope.kind = .function) (fW : FreeIs c.env P scope cl (Str.ofString "world") (isR c.W)) (fX : FreeIs c.env P scope cl (Str.ofString "x") (isI x))
    (ho : ∀ C, (compEnvC scope cl C c.env).kindOf (Str.ofString "j") = some .local) (hf : ∀ C, (compEnvC scope cl C c.env).kindOf (Str.ofString "_law_cut") = some .globalImplicit) (hi : (i : Int) < c.wd) (w2 : c.wd ≤ 70) :
    EvC c P scope cl (Str.ofString "j") (isI i) (.BinOp (.BinOp (.Constant (.int 2) k2 p1) .Pow (.Name (Str.ofString "j") p2) p3) .Mult (.Call (.Name (Str.ofString "_law_cut") p4) [.Name (Str.ofString "world") p5, .Name (Str.ofString "j") p6, .Name (Str.ofString "j") p7, .Name (Str.ofString "x") p8] [] p9) pA) (isI (2 ^ ((i : Int)).toNat * cut x i i)) 2 := by
  intro k hk9 P' C oC m₂ v hPP hC hN hm hv
  have hj : ∀ n p, Ev (c.up k hk9) (compEnvC scope cl C c.env) P' [] (.Name (Str.ofString "j") p) (isI i) n n := fun n p => ev_own hC hN hm hv hkd (ho C) (by decide)
  refine ev_mul (ev_pow2 ev_int (hj _ _) (Int.natCast_nonneg _) (by omega)) (ev_cut (c := c.up k hk9) (ev_globC rfl hkd (hf C) (by decide) gl_cut) (ev_freeF (c := c.up k hk9) hkd (fW.mono hPP)) rfl (hj _ _) (hj _ _) (ev_freeF (c := c.up k hk9) hkd (fX.mono hPP)) (Int.natCast_nonneg _) (Int.le_refl _) hi rfl) ?_
  have hT : 0 ≤ cut x i i ∧ cut x i i < 2 := by rw [cut_one]; exact ⟨Int.emod_nonneg _ (by decide), Int.emod_lt_of_pos _ (by decide)⟩
  exact IntMulOk.of_right (PySem.intBits_le_64 (by omega) (by omega))
theorem cuts2 {o1 o2 : Obj} (h : Cu c P R x y k more) (hV : P (c.fx.L + 1 + 1 + 1 + 1 + 1, o2)) (hO : P (c.fx.L + 1 + 1 + 1 + 1 + 1 + 1, o1)) (hd2 : o2.data = .cell none) (hd1 : o1.data = .cell none) : ExR c P R (L814 c y k more) ((bodyOf (pickS 46)).drop 1) (isB true) 0 220 := by
  have w1 := h.w1
  have w2 := h.w2
  have k0 := h.k0
  have k1 := h.k1
  have hcl := h.cl
  have hc := h.hc
  have hW := h.hW
  obtain ⟨opa, da, ta⟩ := h.ta
  obtain ⟨opb, db, tb⟩ := h.tb
  have e1 : cut x (c.wd - 1) 0 = x := by
    unfold cut
    rw [show c.wd - 1 - 0 + 1 = c.wd by omega]
    simp only [Int.toNat_zero, Int.pow_zero, Int.ediv_one]
    exact l_small h.hx.1 h.hx.2
  have hsum : ((List.range c.wd.toNat).map fun j : Nat => 2 ^ ((j : Int)).toNat * cut x j j).sum = x := by rw [bits_sum, bsum_eq]; exact l_small h.hx.1 h.hx.2
  apply exr_ifF (n1 := 150)
  · refine EvT.le (n1 := 2 + 2 * c.wd.toNat) (evt_or (evt_ne (h.eC rfl (ev_sub h.eN ev_int) ev_int (Int.le_refl _) (by omega) (by omega) rfl) h.eX e1) (evt_or (evt_ne (ev_sum (ev_bltN (by kernel_rfl) (by decide) (by decide) (by kernel_rfl) (by kernel_rfl)) rfl ?_ hsum) h.eX rfl) evt_or_nil)) (by omega)
    apply evs_range (wd0 := c.wd) (st := 2)
    · kernel_rfl
    · (show closureFor _ (envX c.fx.cn S814 c.fx.L c.fx.a c.fx.ccd c.fx.cl) = _; rw [hcl]; rfl)
    · decide
    · decide
    · rfl
    · exact ev_tyN (by kernel_rfl) (by decide) (by decide) (by kernel_rfl) (by kernel_rfl)
    · rfl
    · exact h.eN
    · omega
    · omega
    · omega
    · intro i hi
      exact evc_bit (by kernel_rfl) (h.cW.free rfl (fun C => by kernel_rfl) (by decide)) (h.cX.free rfl (fun C => by kernel_rfl) (by decide)) (fun C => by kernel_rfl) (fun C => by kernel_rfl) hi w2
    · intro v; rfl
  with_reducible refine exr_ifN (q := k > 0) (n1 := 150) (n2 := 160) inferInstance ?_ ?_ rfl ?_
  · exact evt_gt (ev_name rfl (by kernel_rfl) (by decide)) ev_int
  · intro kp
    with_reducible apply exn_setW (U := isTm (Str.ofString "concat") (.inl 0) (c.wd - 1 - k + 1 + (k - 1 - 0 + 1)))
    · rfl
    · kernel_rfl
    · exact ev_concat h.eB rfl (ev_extract h.eB rfl (evl_cons rfl (ev_sub h.eN ev_int) (evl_cons rfl (ev_name rfl (by kernel_rfl) (by decide)) (evl_cons rfl (ev_name rfl (by kernel_rfl) (by decide)) evl_nil))) ta k0 (by omega) (by omega) (by omega) rfl (meth0 rfl rfl rfl rfl))
        (fun ts ws q1 q2 => ev_extract (h.to q1 q2).eB rfl (evl_cons rfl (ev_sub (ev_name (c := c.to ts ws) rfl (by kernel_rfl) (by decide)) ev_int) (evl_cons rfl ev_int (evl_cons rfl (ev_name (c := c.to ts ws) rfl (by kernel_rfl) (by decide)) evl_nil))) (ta.mono q1 q2) (Int.le_refl _) (by omega) (by omega) (by omega) rfl (meth0 rfl rfl rfl rfl)) (by omega) (by omega) (by omega) rfl (meth0 rfl rfl rfl rfl)
    · intro ts ws v q1 q2 hA
      obtain ⟨t', ⟨tk, hv⟩, tm⟩ := hA
      have g := h.to q1 q2
      have hcA : 0 ≤ cut x (c.wd - 1) k ∧ cut x (c.wd - 1) k < 2 ^ (c.wd - k).toNat := by unfold cut; rw [show c.wd - 1 - k + 1 = c.wd - k by omega]; exact mod_range _ _
      have hcB : 0 ≤ cut x (k - 1) 0 ∧ cut x (k - 1) 0 < 2 ^ k.toNat := by unfold cut; rw [show k - 1 - 0 + 1 = k by omega]; exact mod_range _ _
      have eJ : cut x (c.wd - 1) k * 2 ^ k.toNat + cut x (k - 1) 0 = x := by
        unfold cut
        rw [show k - 1 - 0 + 1 = k by omega, show c.wd - 1 - k + 1 = c.wd - k by omega]
        simp only [Int.toNat_zero, Int.pow_zero, Int.ediv_one]
        exact l_joint h.hx.1 (by rw [show (c.wd - k).toNat + k.toNat = c.wd.toNat by omega]; exact h.hx.2)
      with_reducible apply exn_ifFN
      · exact evt_ne (ev_told (c := c.to ts ws) (ps := [(cut x (c.wd - 1) k, c.wd - k), (cut x (k - 1) 0, k)]) ev_toldN rfl g.eB (((ev_name (c := c.to ts ws) rfl (by kernel_rfl) (by decide)).imp fun u hu => ⟨tk, hu.trans hv⟩).tm tm)
          (.cons (fun ts2 ws2 r1 r2 P' q => have f := (g.more_ q).to r1 r2
            evl_cons rfl (f.eC rfl (ev_sub f.eN ev_int) (ev_name (c := (c.to ts ws).to ts2 ws2) rfl (by kernel_rfl) (by decide)) k0 (by show k ≤ c.wd - 1; omega) (by show c.wd - 1 < c.wd; omega) rfl) (evl_cons rfl (ev_sub f.eN (ev_name (c := (c.to ts ws).to ts2 ws2) rfl (by kernel_rfl) (by decide))) evl_nil))
          (.cons (fun ts2 ws2 r1 r2 P' q => have f := (g.more_ q).to r1 r2
            evl_cons rfl (f.eC rfl (ev_sub (ev_name (c := (c.to ts ws).to ts2 ws2) rfl (by kernel_rfl) (by decide)) ev_int) ev_int (Int.le_refl _) (by omega) (by show k - 1 < c.wd; omega) rfl) (evl_cons rfl (ev_name (c := (c.to ts ws).to ts2 ws2) rfl (by kernel_rfl) (by decide)) evl_nil)) .nil)) rfl
          (fun hm hN => told_conc hm hN hcA.1 hcA.2 hcB.1 hcB.2 (by omega) (by omega) (by omega) (by omega))) g.eX eJ
      with_reducible apply exn_nil
      exact fun m q => q.drop rfl
  with_reducible apply exr_setC (a := c.fx.L + 1 + 1 + 1 + 1 + 1) (U := fun _ _ => isI (x * 2 ^ c.wd.toNat + y))
  · rw [hcl]; rfl
  · exact hV
  · exact hd2
  · exact Nat.lt_of_lt_of_le hW (by omega)
  · rfl
  · kernel_rfl
  · apply Ev.evW
    exact ev_told ev_toldN rfl h.eB (ev_concat h.eB rfl ((ev_name rfl (by kernel_rfl) (by decide)).tm ta) (fun ts ws q1 q2 => (ev_name (c := c.to ts ws) rfl (by kernel_rfl) (by decide)).tm (tb.mono q1 q2)) (by omega) (by omega) (by omega) rfl (meth0 rfl rfl rfl rfl)) (.cons h.xw (.cons (fun ts ws q1 q2 P' q => evl_cons rfl (ev_name (c := c.to ts ws) rfl (by kernel_rfl) (by decide)) (evl_cons rfl ((h.more_ q).to q1 q2).eN evl_nil)) .nil)) rfl
      (fun hm hN => told_conc hm hN h.hx.1 h.hx.2 h.hy.1 h.hy.2 (by omega) (by omega) (by omega) (by omega))
  · intro ts ws v o' q1 q2 hA hd'
    exact exr_up (cuts3 ((h.to q1 q2).set (Nat.lt_succ_self _)) ⟨o', v, .inr rfl, hd', hA⟩ (.inl ⟨hO, Nat.ne_of_gt (Nat.lt_succ_self _)⟩) hd1) rfl
theorem cuts_ex (hx : InR c.wd x) (hy : InR c.wd y) (hk0 : 0 ≤ k) (hk1 : k < c.wd) (hm1 : 1 ≤ more) (hm2 : more ≤ 5) (w1 : 1 ≤ c.wd) (w2 : c.wd ≤ 70) (hc : c.c0 ≤ 900000) (hcl : c.fx.cl = cellsFrom (c.fx.L + 1) S814.names [])
    (hW : @LT.lt Nat _ c.W c.fx.L) (low : ∀ p, R p → @LE.le Nat _ p.1 c.fx.L) (hR : ∀ p, R p → P p) (ta : TmI c.ts0 c.ws0 c.ta c.wd) (tb : TmI c.ts0 c.ws0 c.tb c.wd)
    (cW : CellAt P (c.fx.L + 1) (isR c.W)) (cX : CellAt P (c.fx.L + 1 + 1) (isI x)) {o1 o2 o3 o4 : Obj} (pB : P (c.fx.L + 1 + 1 + 1, o4)) (dB : o4.data = .cell none) (pN : P (c.fx.L + 1 + 1 + 1 + 1, o3)) (dN : o3.data = .cell none)
    (pV : P (c.fx.L + 1 + 1 + 1 + 1 + 1, o2)) (dV : o2.data = .cell none) (pO : P (c.fx.L + 1 + 1 + 1 + 1 + 1 + 1, o1)) (dO : o1.data = .cell none) :
    ExR c P R [(Str.ofString "more", isI more), (Str.ofString "k", isI k), (Str.ofString "y", isI y)] (bodyOf (pickS 46)) (isB true) 0 220 := by
  have eW : ∀ {l : FL} {n : Nat} {p : Pos}, Ev c c.env P l (.Name (Str.ofString "world") p) (isR c.W) n n := ev_cell (cW.is (by rw [hcl]; rfl)) (by kernel_rfl) (by decide)
  have hA : @LT.lt Nat _ c.W (c.fx.L + 1 + 1 + 1) := Nat.lt_succ_of_lt (Nat.lt_succ_of_lt (Nat.lt_succ_of_lt hW))
  have l1 : ∀ a, @LT.lt Nat _ a (a + 1) := fun a => Nat.lt_succ_self a
  apply exr_tup4 (a := c.fx.L + 1 + 1 + 1) (b := c.fx.L + 1 + 1 + 1 + 1) (U1 := isR c.b.M.B) (U2 := isI c.wd) (U3 := isI c.ta) (U4 := isI c.tb)
  · kernel_rfl
  · kernel_rfl
  · kernel_rfl
  · kernel_rfl
  · rw [hcl]; rfl
  · rw [hcl]; rfl
  · exact Nat.ne_of_gt (Nat.lt_succ_self _)
  · exact pB
  · exact pN
  · exact dB
  · exact dN
  · exact hA
  · exact Nat.lt_succ_of_lt hA
  · rfl
  · rfl
  · exact evl_cons rfl (ev_wBank eW) (evl_cons rfl (ev_widthW eW) (evl_cons rfl (ev_wA eW) (evl_cons rfl (ev_wB eW) evl_nil)))
  · intro v1 v2 o1' o2' hv1 hv2 hd1 hd2
    refine cuts2 ⟨hx, hy, hk0, hk1, hm1, hm2, w1, w2, hc, hcl, hW, low, fun p hp => ?_, ?_, ?_, ?_, ?_, ta, tb⟩ (.inl ⟨.inl ⟨pV, ?_⟩, ?_⟩) (.inl ⟨.inl ⟨pO, ?_⟩, ?_⟩) dV dO
    · have := low p hp
      exact .inl ⟨.inl ⟨hR p hp, Nat.ne_of_lt (Nat.lt_succ_of_le (Nat.le_succ_of_le (Nat.le_succ_of_le this)))⟩, Nat.ne_of_lt (Nat.lt_succ_of_le (Nat.le_succ_of_le (Nat.le_succ_of_le (Nat.le_succ_of_le this))))⟩
    · exact (cW.set (Nat.ne_of_lt (Nat.lt_succ_of_lt (l1 _)))).set (Nat.ne_of_lt (Nat.lt_succ_of_lt (Nat.lt_succ_of_lt (l1 _))))
    · exact (cX.set (Nat.ne_of_lt (l1 _))).set (Nat.ne_of_lt (Nat.lt_succ_of_lt (l1 _)))
    · exact CellAt.set ⟨o1', v1, .inr rfl, hd1, hv1⟩ (Nat.ne_of_lt (l1 _))
    · exact ⟨o2', v2, .inr rfl, hd2, hv2⟩
    · exact Nat.ne_of_gt (Nat.lt_succ_of_lt (l1 _))
    · exact Nat.ne_of_gt (l1 _)
    · exact Nat.ne_of_gt (Nat.lt_succ_of_lt (Nat.lt_succ_of_lt (l1 _)))
    · exact Nat.ne_of_gt (Nat.lt_succ_of_lt (l1 _))
end

theorem spec_cuts (w : World) {b : BA} {ts : List Term} {ws : List Int} {c : Nat} {news : Led} {W : Addr} {wd ta tb so : Int} {x y k more : Int} {t1 t2 t3 t4 : Tok} (hw : WO w b ts ws c W wd ta tb so news) (hc : c ≤ 900000) (hx0 : 0 ≤ x) (hx1 : x < 2 ^ wd.toNat) (hy0 : 0 ≤ y) (hy1 : y < 2 ^ wd.toNat) (hk0 : 0 ≤ k) (hk1 : k < wd) (hm1 : 1 ≤ more) (hm2 : more ≤ 5) :
   Spec w 814 30 news [.ref W, .int x t1, .int y t2, .int k t3, .int more t4] (TrueW w b (c + 220) W wd ta tb so news) :=
  spec_defC (o := o814) (binds := [(Str.ofString "world", Value.ref W), (Str.ofString "x", .int x t1), (Str.ofString "y", .int y t2), (Str.ofString "k", .int k t3), (Str.ofString "more", .int more t4)]) (l := [(Str.ofString "more", isI more), (Str.ofString "k", isI k), (Str.ofString "y", isI y)]) (by kernel_rfl) rfl (by kernel_rfl) rfl rfl (by decide +kernel) (fun _ => FOk.set (x := Str.ofString "more") (v := .int more t4) (FOk.set (x := Str.ofString "k") (v := .int k t3) (FOk.set (x := Str.ofString "y") (v := .int y t2) (fok_nil (m := fun _ => none)) ⟨_, rfl⟩) ⟨_, rfl⟩) ⟨_, rfl⟩) rfl rfl rfl fun c' cells hcl Y lt => by
    have hWL := hw.low lt
    have at_ : ∀ {x a}, (cellsFrom (c'.L + 1) S814.names []).lookup x = some a → ∃ o, ((a, o) ∈ cells ++ news ∧ Keep b (a, o)) ∧ o.data = .cell (bindC _ _ _ x) := fun q => (cells_at Y q).imp fun o r => ⟨⟨List.mem_append_left _ r.1, .inr (.inl (Nat.lt_trans hw.above (Nat.lt_trans hWL (cells_gt Y _ r.1))))⟩, r.2⟩
    obtain ⟨o6, p6, d6⟩ := at_ (x := Str.ofString "world") rfl
    obtain ⟨o5, p5, d5⟩ := at_ (x := Str.ofString "x") rfl
    obtain ⟨o4, p4, d4⟩ := at_ (x := Str.ofString "bank") rfl
    obtain ⟨o3, p3, d3⟩ := at_ (x := Str.ofString "width") rfl
    obtain ⟨o2, p2, d2⟩ := at_ (x := Str.ofString "wide") rfl
    obtain ⟨o1, p1, d1⟩ := at_ (x := Str.ofString "both") rfl
    have hc' : c ≤ 990000 := Nat.le_trans hc (Nat.le_of_ble_eq_true rfl)
    have hR : ∀ p, p ∈ news ∧ Keep b p → p ∈ cells ++ news ∧ Keep b p := fun p hp => ⟨List.mem_append_right _ hp.1, hp.2⟩
    refine sr_pre (sr_mono (ExR.si <| cuts_ex (c := ⟨w, c', b, W, wd, ta, tb, so, c, hc', ts, ws⟩) (P := fun p => p ∈ cells ++ news ∧ Keep b p) (R := fun p => p ∈ news ∧ Keep b p) ⟨hx0, hx1⟩ ⟨hy0, hy1⟩ hk0 hk1 hm1 hm2 hw.w1 hw.w2 hc hcl hWL (fun p hp => Nat.le_of_lt (lt p hp.1)) hR hw.tma hw.tmb ⟨o6, _, p6, d6, rfl⟩ ⟨o5, _, p5, d5, _, rfl⟩ p4 d4 p3 d3 p2 d2 p1 d1) fun _ _ j => trueW_of j.2 j.1) fun nw e => ?_
    rw [show nw = cells ++ news from e]
    exact I_start (c := ⟨w, c', b, W, wd, ta, tb, so, c, hc', ts, ws⟩) (hw.app cells)
abbrev mfTail : List Value := [.ref 47, .type "Exception", .type "BaseException", .type "object"]
section
variable {w : World} {A : Around} {E : Value → Shared → Prop} {h : Heap} {g : Array GenState} {d : Drawn} {t : Nat} {os : OsState}
theorem mf_obj (X : (kF w.params).In h) : ∃ nm q bs sn sub ab col dd k0 k1 k2 k3 k5, h.get? 105 = some (excClassObj nm q 105 104 bs mfTail true sn sub ab col dd k0 k1 k2 k3 k5 "Exception.__new__") := ⟨_, _, _, _, _, _, _, _, _, _, _, _, _, X _ _ (by rfl)⟩
theorem mf_new {R : Result → Shared → Prop} {v : Value} (X : (kF w.params).In h)
    (hq : R (.ok (.ret (.ref (h.objs.size + 1)))) ⟨(h.push { cls := .type "tuple", data := .seq [v].toArray }).push { cls := .ref 105, data := .fields #[.ref h.objs.size, .none, .none, .none, .bool false, .none] }, g, d, t, os⟩) :
    codeAny (model PP w) A (.builtin "Exception.__new__" ⟨[.ref 105, v], []⟩) R ⟨h, g, d, t, os⟩ := by
  have F := PySem.F.excBase_Exception
  obtain ⟨nm, q, bs, sn, sub, ab, col, dd, k0, k1, k2, k3, k5, hC⟩ := mf_obj X
  have hends := F.ends
  have hcB : (Value.ref 105 :: mfTail).contains (.type "Exception") = true := by decide
  have hcA : (Value.ref 105 :: mfTail).contains (.type "AttributeError") = false := by decide
  have hcN : (Value.ref 105 :: mfTail).contains (.type "NameError") = false := by decide
  refine codeAny_builtinAt F.entry ?_
  unfold Builtin.«BaseException.__new__»
  refine PySem.wpAt_bind ?_
  show PySem.wpAt _ _ _ (stack >>= _) _ _ _
  refine PySem.wpAt_bind (PySem.wpAt_stack fun p below => PySem.wpAt_of_wpAny ?_)
  wp_walk
  refine PySem.wpAt_of_wpAny ?_
  rw [F.owner]
  repeat (first | with_reducible refine wpAny_madeHere_exc F.canon hC ?_ | with_reducible refine wpAny_loadPart_at hC ?_ | (with_reducible refine wpAny_isSubtype_exc hC ?_; first | rw [hcB] | rw [hcA] | rw [hcN]) | wp_step)
  show R _ _
  rw [Heap.size_push]
  exact hq
theorem mf_check_new {v : Value} {Q : Unit → Shared → Prop} (X : (kF w.params).In h) {M : Model}
    (hq : Q () ⟨h, g, d, t, os⟩) : wpAny M A (checkBuiltinCall "Exception.__new__" ⟨[.ref 105, v], []⟩) Q E ⟨h, g, d, t, os⟩ := by
  have F := PySem.F.excBase_Exception
  obtain ⟨nm, q, bs, sn, sub, ab, col, dd, k0, k1, k2, k3, k5, hC⟩ := mf_obj X
  have hcont : (Value.ref 105 :: mfTail).contains (.type "Exception") = true := by decide
  have hstar := F.noStar
  simp only [checkBuiltinCall, F.newKind, F.newSplit, F.newRow]
  repeat (first | with_reducible refine wpAny_loadPart_at hC ?_ | (with_reducible refine wpAny_isSubtype_exc hC ?_; rw [hcont]) | with_reducible refine wpAny_staticBase_exc hC ?_ | with_reducible refine wpAny_madeBy_exc hC ?_ | simp only [bne_self_eq_false, Bool.false_eq_true, if_false] | wp_step)
  exact hq
theorem mf_call {v : Value} {Q : Value → Shared → Prop} (X : (kF w.params).In h)
    (hq : ∀ h' e, Heap.MadeExcOf h h' e (.ref 105) [v] →
      codeAny (model PP w) (A.under (.builtin "type.__call__" ⟨[.ref 105, v], []⟩)) (.call (.ref 37) ⟨[.ref e, v], []⟩) (InitBack e fun r s' => match r with | .ok (.ret v) => Q v s' | .ok _ => False | .error e => E e s') ⟨h', g, d, t, os⟩) :
    wpAny (model PP w) A (call (.ref 105) [v]) Q E ⟨h, g, d, t, os⟩ := by
  have f1 := tc_lookup
  have f2 := tc_bind (.ref 105)
  have F := PySem.F.excBase_Exception
  obtain ⟨nm, q, bs, sn, sub, ab, col, dd, k0, k1, k2, k3, k5, hC⟩ := mf_obj X
  have hT : (⟨h, g, d, t, os⟩ : Shared).TypeIs (.ref 105) "type" := ⟨_, hC, rfl⟩
  refine wpAny_call (codeAny_of_tree ?_)
  show wpAny _ _ (callAny (.ref 105) _) _ _ _
  repeat (any_goals (first | assumption | with_reducible refine wpAny_loadPart_at hC ?_ | wp_step))
  refine ⟨rfl, ?_⟩
  refine codeAny_call_builtin_at (Code.quiet_builtin _ (by decide +kernel)) entry_typeCall (wpAny_check_type_call_sub hC ?_)
  repeat (first | with_reducible refine wpAny_loadPart_at hC ?_ | with_reducible refine wpAny_madeBy_exc hC ?_ | wp_step)
  refine codeAny_call_builtin_code (Code.quiet_builtin _ F.quiet) (mf_check_new X ?_)
  refine mf_new X ?_
  show wpAny _ _ _ _ _ _
  have up : ∀ b o, h.get? b = some o → ((h.push { cls := .type "tuple", data := .seq [v].toArray }).push { cls := .ref 105, data := .fields #[.ref h.objs.size, .none, .none, .none, .bool false, .none] }).get? b = some o := fun b o e => Heap.get?_push_of_some _ (Heap.get?_push_of_some _ e)
  have hC₁ := up _ _ hC
  have X₁ := X.keeps up
  have hget : ((h.push { cls := .type "tuple", data := .seq [v].toArray }).push
      { cls := .ref 105, data := .fields #[.ref h.objs.size, .none, .none, .none, .bool false, .none] }).get? (h.objs.size + 1) = some
      { cls := .ref 105, data := .fields #[.ref h.objs.size, .none, .none, .none, .bool false, .none] } := by heap_get
  have hcC : (Value.ref 105 :: mfTail).contains (.ref 105) = true := by simp
  have hm : Heap.MadeExcOf h ((h.push { cls := .type "tuple", data := .seq [v].toArray }).push { cls := .ref 105, data := .fields #[.ref h.objs.size, .none, .none, .none, .bool false, .none] }) (h.objs.size + 1) (.ref 105) [v] :=
    ⟨up, Heap.get?_none_of_le (Nat.le_succ _), h.objs.size, hget, Heap.get?_none_of_le (Nat.le_refl _), Heap.get?_push_of_some _ (Heap.get?_push_at rfl rfl)⟩
  unfold isInstance
  repeat (first | with_reducible refine wpAny_loadPart_at hget ?_ | (with_reducible refine wpAny_isSubtype_exc hC₁ ?_; rw [hcC]) | wp_step)
  show wpAny _ _ (typeLookup (.ref 105) _) _ _ _
  refine Looks.at (looks_findIn X₁ (r := some (.ref 37)) (by kernel_rfl)) ?_
  refine wpAny_holding (wpAny_bind ?_)
  refine Looks.at (bind_fn X₁ _ (by kernel_rfl)) ?_
  refine wpAny_bind (wpAny_call (codeAny_mono (hq _ _ hm) fun r s' z => ?_))
  rcases r with e | (v | _ | _ | _) <;> first | exact z | exact z.elim | skip
  obtain ⟨rfl, z⟩ := z
  wp_walk
  exact z
end
abbrev mwO (e : Addr) : Obj := { cls := .type "method-wrapper", data := .fields #[.builtin "Exception.__init__", .ref e] }
theorem xs_slot : Slot "wrapper_descriptor" "__get__" "wrapper_descriptor.__get__" :=
  .of (owner := "wrapper_descriptor") (n := "__get__") (by rw [typeLookup_type, builtinLookup_eq_fast]; kernel_rfl) (by decide +kernel) (by decide +kernel) (by decide +kernel)
    (by first | exact .inl (by decide +kernel) | exact .inr (by decide +kernel)) (by rw [isSubtype_type]; kernel_rfl)
theorem xs_entry : entryFor table "wrapper_descriptor.__get__" = some Builtin.«wrapper_descriptor.__get__» := entryFor_of_tree (by kernel_rfl)
theorem xs_args (a b c : Value) : argsOk "wrapper_descriptor.__get__" ⟨[a, b, c], []⟩ := by unfold argsOk; kernel_rfl
theorem xs_type : typeOf (.builtin "Exception.__init__") = pure (.type "wrapper_descriptor") := by show builtinType _ = _; rw [builtinType_eq_fast]; kernel_rfl
section
variable {prog : Program} {w : World} {A : Around} {E : Value → Shared → Prop} {h : Heap} {g : Array GenState} {d : Drawn} {t : Nat} {os : OsState}
theorem xs_own : (".".intercalate ("Exception.__init__".cutAt '.').dropLast) = "Exception" := by first | decide +kernel | kernel_rfl
structure AtO (h : Heap) (e : Addr) (o : Obj) : Prop where
  eq : h.get? e = some o
theorem xs_get {e : Addr} {oE : Obj} {P : Fin → Shared → Prop} (hE : AtO h e oE) (hS : Looks (model prog w) h (isSubtype oE.cls (.type "Exception")) true)
    (hq : P (.done (.ret (.ref h.objs.size))) ⟨h.push (mwO e), g, d, t, os⟩) : wpAny (model prog w) A (Builtin.«wrapper_descriptor.__get__» ⟨[.builtin "Exception.__init__", .ref e, .ref 105], []⟩) P E ⟨h, g, d, t, os⟩ := by
  unfold Builtin.«wrapper_descriptor.__get__»
  refine wpAny_bind (wpAny_of_eq (a := (.builtin "Exception.__init__", some (.ref e), some (.ref 105))) (by first | rfl | kernel_rfl) ?_)
  repeat lk
  refine nd_load (show (⟨h, g, d, t, os⟩ : Shared).heap.get? e = some oE from hE.eq) ?_
  try dsimp only
  rw [xs_own]
  refine wpAny_pure ?_
  refine wpAny_pure ?_
  refine Looks.at hS ?_
  try dsimp only
  refine KFB.if_not rfl ?_
  refine wpAny_pure ?_
  exact wpAny_bind (wpAny_newObj_type (wpAny_pure hq))
theorem xs_isEx (X : (kF w.params).In h) : Looks (model PP w) h (isSubtype (.ref 105) (.type "Exception")) true := looks_mroIn X (by kernel_rfl)
theorem xs_ga {so x : Addr} {oE : Obj} {tk : Tok} {Q : Fin → Shared → Prop} (hso : h.get? so = some { cls := .type "super", dict := none, data := .fields #[.ref 47, .ref x, .ref 105], slots := #[] }) (X : (kF w.params).In h) (hE : h.get? x = some oE) (hc : oE.cls = .ref 105) (hxC : x ≠ 105)
    {l₀ l : List Value} (hC : Looks (model PP w) h (mroOf (.ref 105)) l₀) (hl : (l₀.dropWhile (· != .ref 47)).drop 1 = l) (hf : alongIn (kF w.params) (Str.ofString "__init__") l = some (some (.builtin "Exception.__init__")))
    (hq : Q (.done (.ret (.ref h.objs.size))) ⟨h.push (mwO x), g, d, t, os⟩) : wpAny (model PP w) A (Builtin.«super.__getattribute__» ⟨[.ref so, .str (Str.ofString "__init__") tk], []⟩) Q E ⟨h, g, d, t, os⟩ := by
  have hno := looks_opaque (M := model PP w) (C := 105) X (by kernel_rfl)
  have hlk := xs_slot.lookup
  have hTb : (⟨h, g, d, t, os⟩ : Shared).TypeIs (.builtin "Exception.__init__") "wrapper_descriptor" := xs_type
  have hS : Looks (model PP w) h (isSubtype oE.cls (.type "Exception")) true := hc ▸ xs_isEx X
  have hty := xs_type
  have hne : (Value.ref x == Value.ref 105) = false := by simp [hxC]
  have hn : ((Str.ofString "__init__") == ("__class__" : Str)) = false := by decide +kernel
  have hdt : ({ cls := .type "super", dict := none, data := .fields #[.ref 47, .ref x, .ref 105], slots := #[] } : Obj).data = .fields #[.ref 47, .ref x, .ref 105] := rfl
  have f0 : (#[.ref 47, .ref x, .ref 105] : Array Value)[0]? = some (.ref 47) := rfl
  have f1 : (#[.ref 47, .ref x, .ref 105] : Array Value)[1]? = some (.ref x) := rfl
  have f2 : (#[.ref 47, .ref x, .ref 105] : Array Value)[2]? = some (.ref 105) := rfl
  unfold Builtin.«super.__getattribute__»
  repeat (first
    | (with_reducible refine wpAny_field hso hdt f0 ?_) | (with_reducible refine wpAny_field hso hdt f1 ?_) | (with_reducible refine wpAny_field hso hdt f2 ?_)
    | (with_reducible refine ks_wpAny_notOpaque hno ?_)
    | (with_reducible refine Looks.at hC ?_; rw [hl])
    | (with_reducible refine wpAny_call_entry xs_slot hTb xs_entry ?_ (xs_args _ _ _))
    | (with_reducible refine xs_get ⟨hE⟩ hS ?_)
    | (with_reducible refine ⟨_, rfl, ?_⟩)
    | (simp only [hn, hne, Bool.or_false, Bool.false_eq_true, if_false])
    | wp_step
    | (refine ks_forIn_along X (fun _ _ => rfl) rfl ?_ hf)
    | dsimp only)
  all_goals exact hq
theorem xs_getm {so x : Addr} {oE : Obj} {pl : Sem Bool} {Q : Value × List Value → Shared → Prop} (hso : h.get? so = some { cls := .type "super", dict := none, data := .fields #[.ref 47, .ref x, .ref 105], slots := #[] }) (X : (kF w.params).In h) (hE : h.get? x = some oE) (hc : oE.cls = .ref 105) (hxC : x ≠ 105)
    (hq : Q (.ref h.objs.size, []) ⟨h.push (mwO x), g, d, t + 1, os⟩) : wpAny (model PP w) A (getMethod (.ref so) (Str.ofString "__init__") pl) Q E ⟨h, g, d, t, os⟩ := by
  have hC : Looks (model PP w) h (mroOf (.ref 105)) [.ref 105, .ref 47, .type "Exception", .type "BaseException", .type "object"] := (looks_clsIn X (by rfl)).andThen .now
  have hl : (([.ref 105, .ref 47, .type "Exception", .type "BaseException", .type "object"] : List Value).dropWhile (· != .ref 47)).drop 1 = [.type "Exception", .type "BaseException", .type "object"] := by kernel_rfl
  have hf : alongIn (kF w.params) (Str.ofString "__init__") [.type "Exception", .type "BaseException", .type "object"] = some (some (.builtin "Exception.__init__")) := by kernel_rfl
  have hlk := F.ks_slot_super_ga.lookup
  have hcan := F.ks_canon_super_ga
  have hT : ∀ t', (⟨h, g, d, t', os⟩ : Shared).TypeIs (.ref so) "super" := fun _ => ⟨_, hso, rfl⟩
  unfold getMethod
  refine wpAny_bind (wpAny_specialOf (hT _) hlk ?_)
  show wpAny _ _ (if (Manifest.canonical "super.__getattribute__" != "object.__getattribute__") = true then _ else _) _ _ _
  rw [if_pos hcan]
  unfold getAttr getAttrBy
  refine wpAny_bind (wpAny_bind (wpAny_mkText (wpAny_holding (wpAny_bind (wpAny_typeOf (hT _) (wpAny_bind (wpAny_of_eq hlk ?_)))))))
  show wpAny _ _ (getAttrByItsOwn (.ref so) (.str (Str.ofString "__init__") t) (.type "super") (.builtin "super.__getattribute__") true false) _ _ _
  unfold getAttrByItsOwn hookBefore callGetattribute boundAndCalled
  refine wpAny_bind (wpAny_of_eq (show (if onTheHeap (.type "super") then typeLookup (.type "super") "__getattr__" else pure none) = pure none from rfl) ?_)
  refine wpAny_bind (wpAny_attempt (wpAny_holding ?_))
  show wpAny _ _ (bindSpecial (.builtin "super.__getattribute__") (.ref so) >>= _) _ _ _
  refine wpAny_bind (wpAny_of_eq (F.ks_slot_super_ga.bind _) ?_)
  refine wpAny_mono (Q := fun v s' => v = .ref h.objs.size ∧ s' = ⟨h.push (mwO x), g, d, t + 1, os⟩) (E := fun _ _ => False)
    (wpAny_call_entry F.ks_slot_super_ga (hT _) F.ks_entry_super_ga (xs_ga hso X hE hc hxC hC hl hf ⟨_, rfl, rfl, rfl⟩) (F.ks_gaArgs_super _ _)) (fun v s' hv => ?_) fun _ _ z => z.elim
  obtain ⟨rfl, rfl⟩ := hv
  exact wpAny_pure (wpAny_pure hq)
abbrev excO (t : Addr) : Obj := { cls := .ref 105, data := .fields #[.ref t, .none, .none, .none, .bool false, .none] }
theorem xs_check {M : Model} {e t0 : Addr} {v : Value} {Q : Unit → Shared → Prop} (X : (kF w.params).In h) (hE : h.get? e = some (excO t0)) (hq : Q () ⟨h, g, d, t, os⟩) : wpAny M A (checkBoundCall "Exception.__init__" ⟨[.ref e, v], []⟩) Q E ⟨h, g, d, t, os⟩ := by
  have F := PySem.F.excBase_Exception
  have hshort := F.noStar
  obtain ⟨nm, q, bs, sn, sub, ab, col, dd, k0, k1, k2, k3, k5, hC⟩ := mf_obj X
  simp only [checkBoundCall, F.initKind, F.initRow]
  repeat (first | (with_reducible refine wpAny_loadPart_at hE ?_) | with_reducible refine wpAny_loadPart_at hC ?_ | wp_step)
  exact hq
theorem xs_init {e t0 : Addr} {v : Value} {Q : Fin → Shared → Prop} (hE : h.get? e = some (excO t0))
    (hq : ∀ h', h'.get? e = some (excO h.objs.size) → (∀ b o, b ≠ e → h.get? b = some o → h'.get? b = some o) → Q (.done (.ret .none)) ⟨h', g, d, t, os⟩) :
    wpAny (model prog w) A (Builtin.«BaseException.__init__» ⟨[.ref e, v], []⟩) Q E ⟨h, g, d, t, os⟩ := by
  unfold Builtin.«BaseException.__init__»
  dsimp only
  rw [if_neg (by simp)]
  unfold newTuple Builtin.BaseException.bexcPut
  have he₁ := Heap.get?_push_of_some (h := h) { cls := .type "tuple", data := .seq #[v] } hE
  refine wpAny_bind (wpAny_newObj_type (wpAny_bind (wpAny_bind (wpAny_field he₁ rfl rfl (wpAny_bind (wpAny_setField he₁ rfl (by show 0 < 6; decide) ?_))))) (by size_fits))
  refine wpAny_letGo (wpAny_pure (hq _ ?_ fun b o hb ho => ?_))
  · rw [Heap.get?_update_self _ he₁ rfl]; rfl
  · rw [Heap.get?_update_other _ _ (Ne.symm hb)]; exact Heap.get?_push_of_some _ ho
theorem xs_call {q e t0 : Addr} {v : Value} {Q : Value → Shared → Prop} (X : (kF w.params).In h) (hb : h.get? q = some (mwO e)) (hE : h.get? e = some (excO t0))
    (hq : ∀ h', h'.get? e = some (excO h.objs.size) → (∀ b o, b ≠ e → h.get? b = some o → h'.get? b = some o) → Q .none ⟨h', g, d, t, os⟩) :
    wpAny (model prog w) A (call (.ref q) [v]) Q E ⟨h, g, d, t, os⟩ := by
  refine wpAny_call (codeAny_of_tree ?_)
  show wpAny _ A.in1 (callAny (.ref q) ⟨[v], []⟩) _ _ _
  simp only [callAny]
  refine wpAny_bind (wpAny_load hb ?_)
  simp only [mwO, show (Value.type "method-wrapper" == Value.type "method" || Value.type "method-wrapper" == Value.type "builtin_function_or_method" || Value.type "method-wrapper" == Value.type "method-wrapper") = true by decide, if_true]
  refine KFB.if_so (by decide) ?_
  refine wpAny_bind (xs_check X hE ?_)
  refine wpAny_bind (wpAny_pure (wpAny_pure ?_))
  exact ⟨Code.quiet_builtin _ (by decide +kernel), codeAny_builtin PySem.F.excBase_Exception.initEntry (xs_init hE fun h' h1 h2 => hq h' h1 h2)⟩
end

open PySem.Builtin PySem.Builtin.ObjectAttr
section
variable {w : World} {A : Around} {E : Value → Shared → Prop} {h : Heap} {g : Array GenState} {d : Drawn} {t : Nat} {os : OsState}
theorem xs_osa {e : Addr} {oE : Obj} {tk : Tok} {v : Value} {R : Result → Shared → Prop} (X : (kF w.params).In h) (hE : h.get? e = some oE) (hc : oE.cls = .ref 105) (hdn : oE.dict = none) (hnc : ∀ c, oE.data ≠ .cls c)
  (hq : ∀ h' tk', (∃ oE', h'.get? e = some oE' ∧ oE'.cls = oE.cls ∧ oE'.data = oE.data) → (∀ b o, b ≠ e → h.get? b = some o → h'.get? b = some o) → R (.ok (.ret .none)) ⟨h', g, d, tk', os⟩) :
  codeAny (model PP w) A (.call (.builtin "object.__setattr__") ⟨[.ref e, .str (Str.ofString "what") tk, v], []⟩) R ⟨h, g, d, t, os⟩ := by
  have SF := PySem.F.store_Exception
  have I : InstAt h e oE 105 none := ⟨hE, hc, by unfold notCls; split <;> first | rfl | (rename_i q; exact absurd q (hnc _)), by rw [hdn]; trivial⟩
  have sub : Looks (model PP w) h (isInstance (.ref e) (.type "object")) true := I.type.andThen (looks_mroIn X (by kernel_rfl))
  refine codeAny_call_builtin SF.slot.plain SF.entry (@check_slot (model PP w) _ _ _ "object.__setattr__" "object" "__setattr__" (.ref e) [.str (Str.ofString "what") tk, v] [] _ SF.kind SF.split sub (SF.args (.ref e) (.str (Str.ofString "what") tk) v) ?_)
  have hm : Looks (model PP w) h (mroOf (.ref 105)) [.ref 105, .ref 47, .type "Exception", .type "BaseException", .type "object"] := (looks_clsIn X (by rfl)).andThen .now
  have L3 : Looks (model PP w) h (storeTaker? none) none := .now
  obtain ⟨nm, q, bs, sn, sub', ab, col, dd, k0, k1, k2, k3, k5, hC⟩ := mf_obj X
  rw [osa_eq, refuse_eq]
  refine wpAny_bind (wpAny_bind (I.type.here (wpAny_bind (hm.here ?_))))
  rw [refuseLoop_ref, refuseLoop_ref, SF.passes]
  refine wpAny_pure (wpAny_bind (I.type.here (wpAny_bind ((looks_findIn X (r := none) (by kernel_rfl)).here (wpAny_bind (L3.here ?_))))))
  dsimp only
  unfold storeInOwnDict ownStreamTells ownDictForStores instanceDict
  refine wpAny_bind (wpAny_pure ?_)
  refine KFB.if_not rfl ?_
  dsimp only
  refine wpAny_bind (wpAny_bind (wpAny_loadPart' hE ?_))
  rw [hc, hdn]
  dsimp only
  refine wpAny_bind ((looks_clsIn X (C := 105) (by rfl)).here ?_)
  refine KFB.if_not rfl ?_
  refine KFB.if_not (by simp [typeHasDict]) ?_
  have hxs : e ≠ h.objs.size := Nat.ne_of_lt (Heap.lt_size hE)
  split
  · rename_i c hcd
    exact absurd hcd (hnc c)
  · have hx₁ : (h.push { cls := .type "dict", data := .dict #[] }).get? e = some oE := Heap.get?_push_of_some _ hE
    refine wpAny_bind (wpAny_alloc' ?_)
    refine wpAny_bind (wpAny_update' hx₁ ?_)
    refine wpAny_pure ?_
    have hgd : ((h.push { cls := .type "dict", data := .dict #[] }).update e fun o => { cls := o.cls, dict := some h.objs.size, data := o.data, slots := o.slots }).get? h.objs.size
        = some { cls := .type "dict", data := .dict #[] } :=
      (Heap.get?_update_ne _ _ _ _ hxs.symm).trans (Heap.get?_push_at rfl rfl)
    have hnd : ((h.push { cls := .type "dict", data := .dict #[] }).update e fun o => { cls := o.cls, dict := some h.objs.size, data := o.data, slots := o.slots }).Ns h.objs.size (fun _ => none) :=
      ⟨_, #[], _, hgd, rfl, fun e he => absurd he (by simp), fun _ => rfl⟩
    show wpAny _ _ (storeInDict h.objs.size (.str (Str.ofString "what") tk) (Str.ofString "what") v) _ _ _
    unfold storeInDict newKeyGuard
    refine wpAny_bind (wpAny_pure (wpAny_bind (wpAny_nsSet1 (Heap.Ns1.of_empty hnd) fun h' hn' hs => ?_)))
    obtain ⟨oD, esD, epD, hoD, hdD, hcD⟩ := hn'.count (Within.cons (Str.ofString "what") v Within.nil)
    refine wpAny_bind (wpAny_lookBehind hoD (by rw [hdD]; exact pastItsLine_dict (Nat.le_trans hcD (by rw [List.length_cons, List.length_nil, sizeLine_eq]; omega))) ?_)
    wp_walk
    refine hq h' _ ⟨{ cls := oE.cls, dict := some h.objs.size, data := oE.data, slots := oE.slots }, (hs.2 e hxs).trans (Heap.get?_update_self _ hx₁ ?_), rfl, rfl⟩ fun b ob hbx hb =>
      (hs.2 b (Nat.ne_of_lt (Heap.lt_size hb))).trans ((Heap.get?_update_ne _ _ _ _ hbx).trans (Heap.get?_push_of_some _ hb))
    have hfr := (Heap.get?_some_iff.mp hE).2
    obtain ⟨oc, od, odt, osl⟩ := oE
    cases odt <;> first | rfl | exact hfr
end
abbrev mfObj (t : Addr) (dO : Option Addr) (sl : Array (Option Value)) : Obj := { cls := .ref 105, dict := dO, data := .fields #[.ref t, .none, .none, .none, .bool false, .none], slots := sl }
section
variable {w : World} {M : Model} {A : Around} {E : Value → Shared → Prop} {s : Shared} {env : Env}
theorem mf_raiseStmt {x : Sem Value} {Q : Flow → Shared → Prop} (hh : A.handled = none)
    (h : wpAny M A x (fun v s₁ => ∃ e t dO sl, v = .ref e ∧ (kF w.params).In s₁.heap ∧ s₁.heap.get? e = some (mfObj t dO sl) ∧ E (.ref e) s₁) E s) :
    wpAny M A (raiseStmt env (some x) none) Q E s := by
  have hcB : (Value.ref 105 :: mfTail).contains (.type "BaseException") = true := by decide
  unfold raiseStmt
  refine wpAny_bind (wpAny_mono h (fun v s₁ h₁ => ?_) fun _ _ x => x)
  obtain ⟨e, t, dO, sl, rfl, X, he, hE⟩ := h₁
  obtain ⟨nm, q, bs, sn, sub, ab, col, dd, k0, k1, k2, k3, k5, hC⟩ := mf_obj X
  obtain ⟨hp, g, d, tk, os⟩ := s₁
  repeat (first | with_reducible refine wpAny_loadPart_at he ?_ | with_reducible refine wpAny_loadPart_at hC ?_ | (with_reducible refine wpAny_isSubtype_exc hC ?_; rw [hcB]) | wp_step)
  exact wpAny_raiseNew_none hh hE
end
def MadeMF (news : Led) (r : Value) (news' : Led) : Prop :=
  ∃ e t dO sl, r = .ref e ∧ (e, mfObj t dO sl) ∈ news' ∧ ∀ p ∈ news, @Ne Nat p.1 e ∧ p ∈ news'
section
variable {M : Model} {A : Around} {E : Value → Shared → Prop} {s : Shared}
theorem xs_callWith {pos : Pos} {u e : Addr} {args : List (Bool × Sem Value)} {Q : Value → Shared → Prop} (hplain : args.any (·.1) = false)
    (h : wpAny M A (evalArgs (.ref u) true args []) (fun x s₁ => s₁.heap.get? u = some (mwO e) ∧ wpAny M A (call (.ref u) ([] ++ x.pos) x.kw) Q E s₁) E s) : wpAny M A (callWith pos (.ref u) [] args []) Q E s := by
  unfold callWith
  refine wpAny_bind (wpAny_holding (wpAny_mono h (fun x s₁ h₁ => wpAny_bind (wpAny_standAt ?_)) fun _ _ x => x))
  obtain ⟨ho, hcall⟩ := h₁
  simp only [hplain, List.any_nil, Bool.or_false]
  refine wpAny_bind (m := keeperOf (.ref u)) ?_
  unfold keeperOf
  refine wpAny_bind (wpAny_load ho ?_)
  simp only [show (Value.type "method-wrapper" != Value.type "method") = true by decide, show (Value.type "method-wrapper" == Value.type "builtin_function_or_method" || Value.type "method-wrapper" == Value.type "method-wrapper") = true by decide, if_true]
  refine wpAny_pure ?_
  exact wpAny_bind (wpAny_mono hcall (fun r s₂ hr => wpAny_bind (wpAny_holding (wpAny_point (wpAny_pure hr)))) fun _ _ x => x)
theorem xs_callWith1 {pos : Pos} {u e : Addr} {env : Env} {x : Expr} {rest : List Expr} {Q : Value → Shared → Prop}
    (h : wpAny M A (spliced (backTo pos (starEach (x :: rest) env))) (fun vs s₁ => s₁.heap.get? u = some (mwO e) ∧ wpAny M A (call (.ref u) vs) Q E s₁) E s)
    (he : starEach (x :: rest) env = (false, eval x env) :: starEach rest env := by rfl) (hplain : (backTo pos (starEach rest env)).any (·.1) = false := by rfl) :
    wpAny M A (callWith pos (.ref u) [] (backTo pos (starEach (x :: rest) env)) []) Q E s := by
  rw [he] at h ⊢
  refine xs_callWith (e := e) (by show (false || (backTo pos (starEach rest env)).any (·.1)) = false; rw [hplain]; rfl) ?_
  exact evalArgs_plain h
end
theorem mf_news {g h h' : Heap} {L e : Addr} {news : Led} {x : Obj} (N : News g L h news) (hne : ∀ p ∈ news, @Ne Nat p.1 e) (he : h'.get? e = some x) (hL : e ≠ L ∧ g.get? e = none) (k : ∀ b o, b ≠ e → h.get? b = some o → h'.get? b = some o) : News g L h' ((e, x) :: news) := fun p hp => by
  rcases List.mem_cons.mp hp with rfl | hp
  · exact ⟨he, hL⟩
  · exact ⟨k _ _ (hne p hp) (N p hp).1, (N p hp).2⟩
theorem spec_mf (w : World) {news : Led} {msg : Str} {tk : Tok} : Spec w 105 8 news [.str msg tk] (MadeMF news) := by
  unfold Spec
  k_fill
  intro mean mg mb' dp un gd cn cs a' ccd cl outer A₀ base h₀ L m s Q E B F X N T hk hdp hu hret
  obtain ⟨hh, g, d, t, os⟩ := s
  dsimp only at F N
  refine mf_call (X.keeps F.keep) ?_
  intro hm1 e hm
  obtain ⟨t1, het, htn, htt⟩ := hm.there
  have F1 : Fr h₀ L hm1 m := F.kept hm.keeps
  have hen : h₀.get? e = none := by
    cases q : h₀.get? e with
    | none => rfl
    | some o => have := F.keep _ _ q; rw [hm.new] at this; cases this
  have htn0 : h₀.get? t1 = none := by
    cases q : h₀.get? t1 with
    | none => rfl
    | some o => have := F.keep _ _ q; rw [htn] at this; cases this
  have N1 : News h₀ L hm1 ((e, excO t1) :: (t1, tupO #[.str msg tk] 0) :: news) := by
    refine News.more F1 (News.more F1 (fun p hp => ?_) htt (fun es n q => by cases q) htn0) het (fun es n q => by cases q) hen
    exact ⟨hm.keeps _ _ (N p hp).1, (N p hp).2⟩
  have hne : ∀ p ∈ news, @Ne Nat p.1 e := fun p hp z => by
    have q := (N p hp).1
    have z' : p.1 = e := z
    rw [z', hm.new] at q; cases q
  have hE : (e, excO t1) ∈ ((e, excO t1) :: (t1, tupO #[.str msg tk] 0) :: news) := .head _
  clear het htt htn htn0 F N hm
  k_dflt (refine' ks_code_super ?k1 ?k2 ?k3 ?k4 ?k5 ?kA ?kF ?kK ?k6 ?k7 ?k8 ?k9 ?kB ?_ ?c1 ?c2 ?c3 ?c4; (case kA => exact rfl); (case kF => exact rfl); (case kK => first | assumption | exact rfl); (case k1 => k_asm); (case k2 => k_asm); (case k3 => k_asm); (case k4 => k_asm); (case k5 => k_asm); (case k6 => k_is); (case k7 => k_is); (case k8 => ktr_room); (case k9 => exact BindsTo.of_eq rfl); (case kB => exact locs rfl); (case c1 => decide); (case c2 => exact rfl); (case c3 => exact rfl); (case c4 => exact rfl))
  intro g' L' h' FG' F' N' B' X' T' l1
  dsimp only
  refine ks_wpAt_execs_cons ?_
  k_dflt (refine ks_wpAt_Expr_any ?_)
  (try dsimp only)
  k_dflt (refine ks_wpAt_MethodCall ?_)
  (try dsimp only)
  have hEN := N' _ hE
  refine ks_node (x := e) (C := 105) (D := 47) F' X' N' T' (by k_is) (by rfl) (by rfl) (ox := excO t1) (odx := none) ⟨hEN.1, rfl, rfl, trivial⟩ (by k_is) (by rfl) (by first | rfl | decide +kernel) (by k_is) (by k_is) (by k_is) (by k_is) (by decide) (by rfl) (by rfl) (by rfl) (by rfl) (by decide +kernel) (by first | boot_by_name | rfl | kernel_rfl) ?_
  intro so h2 F2 N2 l2
  have hxC : e ≠ 105 := fun q => by
    have q1 := hEN.2.2
    obtain ⟨_, _, _, _, _, _, _, _, _, _, _, _, _, hC⟩ := mf_obj X'
    rw [q, hC] at q1; cases q1
  refine xs_getm (N2 _ (.head _)).1 (X'.keeps F2.keep) (N2 _ (.tail _ hE)).1 rfl hxC ?_
  obtain ⟨F3, N3, l3⟩ := ks_newsPush (s := (⟨h2, g, d, t, os⟩ : Shared)) (o := mwO e) F2 N2 rfl (Heap.get?_push_at rfl rfl) (fun b o q => Heap.get?_push_of_some _ q)
  refine xs_callWith1 (e := e) ?_
  k_steps
  all_goals first | exact (N3 _ (.head _)).1 | skip
  refine xs_call (X'.keeps F3.keep) (N3 _ (.head _)).1 (N3 _ (.tail _ (.tail _ hE))).1 ?_
  intro h4 e4 k4
  have F4 := LCg.fr_but F3 (fun b o hb q => k4 b o (by simpa using hb) q) (Ne.symm hEN.2.1) hEN.2.2
  have N4 := mf_news (x := excO (h2.push (mwO e)).objs.size) (fun p hp => N3 p (.tail _ (.tail _ (.tail _ (.tail _ hp))))) hne e4 hEN.2 k4
  clear F3 N3 F2 N2 N'
  k_steps
  refine set_plain (X'.keeps F4.keep) (⟨e4, rfl, rfl, trivial⟩ : InstAt _ e (excO (h2.push (mwO e)).objs.size) 105 none) (by kernel_rfl) ?_
  refine xs_osa (X'.keeps F4.keep) e4 rfl rfl (fun c q => by cases q) ?_
  intro h5 tk5 ⟨oE5, e5, c5, q5⟩ k5
  have F5 := LCg.fr_but F4 (fun b o hb q => k5 b o (by simpa using hb) q) (Ne.symm hEN.2.1) hEN.2.2
  obtain ⟨oc5, od5, oda5, osl5⟩ := oE5
  obtain rfl : oc5 = _ := c5
  obtain rfl : oda5 = _ := q5
  have N5 := mf_news (fun p hp => N4 p (.tail _ hp)) hne e5 hEN.2 k5
  clear F4 N4 e4 k4 e5 k5
  dsimp only
  k_steps
  rename Fr _ _ _ _ => kF9
  rename News _ _ _ _ => kN9
  exact hret _ _ _ _ kF9 kN9 ⟨e, _, _, _, rfl, .head _, fun p hp => ⟨hne p hp, .tail _ hp⟩⟩

section
variable {w : World} {A : Around} {E : Value → Shared → Prop} {s : Shared} {h₀ : Heap} {L a : Addr} {m mg mb : Str → Option Value} {cn : Str} {cs : Scope} {ccd : Value} {loose : List Str} {p : Program}
theorem mf_callWith {M : Model} {pos : Pos} {args : List (Bool × Sem Value)} {Q : Value → Shared → Prop} (hplain : args.any (·.1) = false)
    (h : wpAny M A (evalArgs (.ref 105) true args []) (fun x s₁ => (kF w.params).In s₁.heap ∧ wpAny M A (call (.ref 105) ([] ++ x.pos) x.kw) Q E s₁) E s) : wpAny M A (callWith pos (.ref 105) [] args []) Q E s := by
  unfold callWith
  refine wpAny_bind (wpAny_holding (wpAny_mono h (fun x s₁ h₁ => wpAny_bind (wpAny_standAt ?_)) fun _ _ x => x))
  obtain ⟨X, hcall⟩ := h₁
  obtain ⟨nm, q, bs, sn, sub, ab, col, dd, k0, k1, k2, k3, k5, hC⟩ := mf_obj X
  simp only [hplain, List.any_nil, Bool.or_false]
  obtain ⟨hp, g, d, tk, os⟩ := s₁
  refine wpAny_bind (wpAny_keeperOf_exc hC ?_)
  exact wpAny_bind (wpAny_mono hcall (fun r s₂ hr => wpAny_bind (wpAny_holding (wpAny_point (wpAny_pure hr)))) fun _ _ x => x)
theorem mf_callWith1 {M : Model} {pos : Pos} {env : Env} {x : Expr} {rest : List Expr} {Q : Value → Shared → Prop}
    (h : wpAny M A (spliced (backTo pos (starEach (x :: rest) env))) (fun vs s₁ => (kF w.params).In s₁.heap ∧ wpAny M A (call (.ref 105) vs) Q E s₁) E s)
    (he : starEach (x :: rest) env = (false, eval x env) :: starEach rest env := by rfl) (hplain : (backTo pos (starEach rest env)).any (·.1) = false := by rfl) :
    wpAny M A (callWith pos (.ref 105) [] (backTo pos (starEach (x :: rest) env)) []) Q E s := by
  rw [he] at h ⊢
  refine mf_callWith (w := w) (by show (false || (backTo pos (starEach rest env)).any (·.1)) = false; rw [hplain]; rfl) ?_
  exact evalArgs_plain h
end

theorem tm_noFill : fillsNumberSlot (.type "tuple") "mul" = pure false :=
  PyProof.Rows.fillsNumberSlot_seq (id := "tuple.__mul__") (r := some (.builtin "tuple.__rmul__")) PySem.F.slot_tuple_mul.lookup (by decide +kernel) PySem.F.slot_tuple_rmul.lookup (by decide +kernel)
theorem tm_repeat : seqRepeat? (.type "tuple") = pure (some (.builtin "tuple.__mul__")) := by
  unfold seqRepeat?
  rw [PyProof.Rows.seqSlot_of (T := "tuple") (name := "__mul__") (id := "tuple.__mul__") PySem.F.slot_tuple_mul.lookup (by decide +kernel), PyProof.Rows.seqSlot_of (T := "tuple") (name := "__rmul__") (id := "tuple.__rmul__") PySem.F.slot_tuple_rmul.lookup (by decide +kernel)]
  rfl
theorem tm_rmul (a : Int) (t : Tok) (l : Addr) (items : Array Value) (n : Nat) :
    Meets (Builtin.«int.__rmul__» ⟨[.int a t, .ref l], []⟩) (fun _ R s => s.heap.get? l = some (tupO items n) ∧ R (.ok (.ret Value.notImplemented)) s) :=
  .of_wp fun prog w A R s h => by obtain ⟨hp, g, d, tk, os⟩ := s; obtain ⟨hl, h⟩ := h; wp_walk; exact ⟨_, rfl, h⟩
theorem tm_mul1 (l : Addr) (v : Value) (n : Nat) (u : Tok) :
    Meets (Builtin.«tuple.__mul__» ⟨[.ref l, .int 1 u], []⟩) (fun _ R s => s.heap.get? l = some (tupO #[v] n) ∧ R (.ok (.ret (.ref l))) s) :=
  .of_wp fun prog w A R s h => by
    obtain ⟨hp, g, d, tk, os⟩ := s; obtain ⟨hl, h⟩ := h
    wp_walk
    exact ⟨_, rfl, h⟩
theorem tm_mul2 (l : Addr) (v : Value) (n : Nat) (u : Tok) :
    Meets (Builtin.«tuple.__mul__» ⟨[.ref l, .int 2 u], []⟩) (fun _ R s => s.heap.get? l = some (tupO #[v] n) ∧ R (.ok (.ret (.ref s.heap.objs.size))) { s with heap := s.heap.push (tupO #[v, v] 0) }) :=
  .of_wp fun prog w A R s h => by
    obtain ⟨hp, g, d, tk, os⟩ := s; obtain ⟨hl, h⟩ := h
    wp_walk
    exact ⟨_, rfl, h⟩
section
variable {prog : Program} {w : World} {A : Around} {E : Value → Shared → Prop} {s : Shared} {h₀ : Heap} {L : Addr} {m : Str → Option Value} {news : Led} {l : Addr} {v : Value} {n : Nat} {u : Tok} {Q : Value → Shared → Prop}
theorem tm_1 (N : News h₀ L s.heap news) (hm : (l, tupO #[v] n) ∈ news) (h : Q (.ref l) s) : wpAny (model prog w) A (binaryOp .Mult (.ref l) (.int 1 u)) Q E s := by
  have ho := N.get hm
  exact wpAny_binaryOp_repeat_ref (T := "tuple") (U := "int") (by decide) ⟨_, ho, rfl⟩ (fun s' => typeIs_int s' 1 u) tm_noFill PySem.F.fills_int_mul PySem.F.slot_int_rmul tm_repeat PySem.F.slot_int_index.lookup
    (call_meets PySem.F.slot_int_rmul (typeIs_int s 1 u) PySem.F.entry_int_rmul (PySem.F.args_int_rmul_2 _ _) (tm_rmul 1 u l #[v] n)
      ⟨ho, rfl, ⟨_, ho, rfl⟩, call_meets PySem.F.slot_tuple_mul ⟨_, ho, rfl⟩ PySem.F.entry_tuple_mul (PySem.F.args_tuple_mul_2 _ _) (tm_mul1 l v n u) ⟨ho, h⟩⟩)
theorem tm_2 (F : Fr h₀ L s.heap m) (N : News h₀ L s.heap news) (hm : (l, tupO #[v] n) ∈ news) (h : ∀ D h', Fr h₀ L h' m → News h₀ L h' ((D, tupO #[v, v] 0) :: news) → (∀ p ∈ news, p.1 < D) → Q (.ref D) { s with heap := h' }) :
    wpAny (model prog w) A (binaryOp .Mult (.ref l) (.int 2 u)) Q E s := by
  have ho := N.get hm
  exact wpAny_binaryOp_repeat_ref (T := "tuple") (U := "int") (by decide) ⟨_, ho, rfl⟩ (fun s' => typeIs_int s' 2 u) tm_noFill PySem.F.fills_int_mul PySem.F.slot_int_rmul tm_repeat PySem.F.slot_int_index.lookup
    (call_meets PySem.F.slot_int_rmul (typeIs_int s 2 u) PySem.F.entry_int_rmul (PySem.F.args_int_rmul_2 _ _) (tm_rmul 2 u l #[v] n)
      ⟨ho, rfl, ⟨_, ho, rfl⟩, call_meets PySem.F.slot_tuple_mul ⟨_, ho, rfl⟩ PySem.F.entry_tuple_mul (PySem.F.args_tuple_mul_2 _ _) (tm_mul2 l v n u) ⟨ho, h _ _ (F.push _) (News.push F N (tupO #[v, v] 0)) fun p hp => Heap.lt_size (N p hp).1⟩⟩)
end
section
variable {M : Model} {A : Around} {E : Value → Shared → Prop} {s' : Shared} {base g : Heap} {outer : List Env} {L a e t : Addr} {m : Str → Option Value} {name : Str} {scope : Scope} {cd : Value} {Q : Unit → Shared → Prop} {news : Led} {dO : Option Addr} {sl : Array (Option Value)}
theorem leave_mfS (K : Below A base outer g) (F : Fr g L s'.heap m) (N : News g L s'.heap news) (hE : (e, mfObj t dO sl) ∈ news)
    (hQ : ∀ h', RaisedSN base g outer e (.ref 105) (less e news) h' → g.UpToSlots h' → Q () { s' with heap := h' }) (hk : scope.kind = .function := by rfl) :
    wpAny M (A.deeper (envOf name scope L a cd)) (leaving (envOf name scope L a cd) (.ref e)) Q E s' := by
  have K' := K.push (name := name) (a := a) (cd := cd) F hk
  have hin : ∀ env ∈ (envOf name scope L a cd :: outer), ∀ b, env.frame = some b → b ∈ e :: (envOf name scope L a cd :: outer).filterMap (·.frame) := fun env he b hb => .tail _ (List.mem_filterMap.mpr ⟨env, he, hb⟩)
  obtain ⟨he, heL, hen⟩ := N _ hE
  have hbe : base.get? e = none := fresh_of_stays K.stays hen
  have frameNe : ∀ b, b ∈ (envOf name scope L a cd :: outer).filterMap (·.frame) → ∀ q ∈ news, q.1 ≠ b := fun b hm q hq z => by
    obtain ⟨env, he, hf⟩ := List.mem_filterMap.mp hm
    rcases List.mem_cons.mp he with rfl | he
    · exact (N q hq).2.1 (z.trans (Option.some.inj hf).symm)
    · obtain ⟨o, ho, _⟩ := (K.frames.mem (List.mem_filterMap.mpr ⟨env, he, hf⟩)).2
      rw [← z, (N q hq).2.2] at ho; cases ho
  have st : base.StaysIn (hideAll s'.heap (e :: (envOf name scope L a cd :: outer).filterMap (·.frame))) := fun b o q => hideAll_get _ (K'.stays b o q) fun hm => by
    rcases List.mem_cons.mp hm with rfl | hm
    · rw [hbe] at q; cases q
    · rw [(K'.frames.mem hm).1] at q; cases q
  have sg : ∀ b o, g.get? b = some o → b ∉ outer.filterMap (·.frame) → (hideAll s'.heap (e :: (envOf name scope L a cd :: outer).filterMap (·.frame))).get? b = some o := fun b o q nm => hideAll_get _ (F.keep b o q) fun hm => by
    rcases List.mem_cons.mp hm with rfl | hm
    · rw [hen] at q; cases q
    rcases kts_mem hm with z | z
    · rw [z, kts_self F] at q
      cases q
    · exact nm z
  have hl : ∀ q ∈ less e news, (hideAll s'.heap (e :: (envOf name scope L a cd :: outer).filterMap (·.frame))).get? q.1 = some q.2 ∧ g.get? q.1 = none ∧ base.get? q.1 = none := fun q hq => by
    obtain ⟨hq, hne⟩ := mem_less.mp hq
    refine ⟨hideAll_get _ (N q hq).1 fun hm => ?_, (N q hq).2.2, fresh_of_stays K.stays (N q hq).2.2⟩
    rcases List.mem_cons.mp hm with z | hm
    · exact hne z
    · exact frameNe _ hm q hq rfl
  refine wpAny_leaving_firstW (a0 := .ref t) K'.stack (funFrames_hide K'.frames hin) rfl he (fun b o hb => of_hideAll _ hb) (hideAll_none _ (List.mem_cons_self)) rfl rfl rfl fun h' hL => ?_
  obtain ⟨k1, ⟨_, _, k2⟩, k3, k4⟩ := hL
  exact hQ h' ⟨_, _, st, sg, hl, k1, hideAll_none _ (List.mem_cons_self), k2, k3⟩ ((Heap.UpToSlots.of_keeps F.keep).trans k4)
theorem leave_mfO {g₂ : Heap} {cls : Value} (R : RaisedSN base g₂ (envOf name scope L a cd :: outer) e cls news s'.heap) (K : Below A base outer g) (hsm : g₂.UpToSlots s'.heap) (F : Fr g L g₂ m)
    (hQ : ∀ h', RaisedSN base g outer e cls news h' → g.UpToSlots h' → Q () { s' with heap := h' }) :
    wpAny M (A.deeper (envOf name scope L a cd)) (leaving (envOf name scope L a cd) (.ref e)) Q E s' := leave_onSN K F R hsm fun h' R' _ U => hQ h' R' U
end
section
variable {prog : Program} {w w' : World} {A₀ A : Around} {E : Value → Shared → Prop} {s s' : Shared} {base h₀ g g₀ G : Heap} {env : Env} {outer : List Env} {L a e : Addr} {m : Str → Option Value} {name qual : Str} {scope : Scope} {cd : Value}
  {b₀ : Stmt} {suite : List Stmt} {pos np : Pos} {rest : List ExceptHandler} {Q : Flow → Shared → Prop} {news : Led}
  {p : Program} {loose : List Str} {mean : ExcName → Option Value} {mg mb : Str → Option Value} {x : Str}
theorem caught_mfS (R : RaisedSN base G (envOf name scope L a cd :: outer) e (.ref 105) news s'.heap) (F : Fr g L G m) (K : Below A₀ base outer g) (hsm : G.UpToSlots s'.heap) (XB : (kF w'.params).In base) (TB : Top p loose mean mg mb base)
    (ex : nsIn (kF w'.params) mainGlobals x = some (some (.ref 105)))
    (k : ∀ h' g', KtsTurn (outer.filterMap (·.frame)) g g' → Fr g' L h' m → News g' L h' news → (kF w'.params).In g' → Top p loose mean mg mb g' →
      wpAny (model prog w) ((A₀.deeper (envOf name scope L a cd)).mark (some (.ref e))) (execs (b₀ :: suite) (envOf name scope L a cd)) Q E { s' with heap := h' })
    (hk : scope.kind = .function := by rfl) (hx : (envOf name scope L a cd).kindOf x = some .globalImplicit := by rfl) (hd : (x == ("__debug__" : Str)) = false := by decide)
    (hE : PassesOwnAt (model prog w) ((A₀.deeper (envOf name scope L a cd)).mark (some (.ref e))) (A₀.deeper (envOf name scope L a cd)) (envOf name scope L a cd) E := by passes_own) :
    wpAny (model prog w) (A₀.deeper (envOf name scope L a cd)) (noteFrame (.ref e) (envOf name scope L a cd))
      (fun _ s₂ => wpAny (model prog w) (A₀.deeper (envOf name scope L a cd)) (setFlight (.ref e) none) (fun _ s₃ =>
        wpAny (model prog w) (A₀.deeper (envOf name scope L a cd)) (handleBy (.ref e) (envOf name scope L a cd) (.ExceptHandler (some (.Name x np)) none (b₀ :: suite) pos :: rest)) Q E s₃) E s₂) E s' := by
  obtain ⟨B, a0, hB, hBG, hl, hfl⟩ := R
  have hL : B.get? L = none := by
    obtain ⟨_, ⟨L', _, hf, hn', _⟩, _⟩ := hfl.2.2.1
    obtain rfl : L = L' := Option.some.inj hf
    exact hn'
  refine wpAny_looks_onW (Around.frames_deeper K.stack) rfl hfl fun h₄ hheld₄ hsm₄ => ?_
  refine wpAny_landsW hheld₄ fun h₅ hheld hsm₅' => ?_
  have hsm₅ := hsm₄.trans hsm₅'
  obtain ⟨g₅, T₅, F₅, K₅⟩ := kts_ground K F hBG hheld.1 (hsm.trans hsm₅)
  have X₅ : (kF w'.params).In g₅ := XB.keeps K₅.stays
  have P₅ : TopRead p loose mg mb g₅ := topRead_of (TB.keeps K₅.stays)
  obtain ⟨ob, hob, hobc⟩ := hheld.there
  obtain ⟨nm, q, bs, sn, sub, ab, col, dd, k0, k1, k2, k3, k5, hC⟩ := mf_obj (X₅.keeps F₅.keep)
  refine wpAny_handleBy_cons (codeAny_handlers_test (name_K F₅ X₅ P₅ ex ?_ hk hx hd)) (by intro q; cases q)
  refine wpAny_excMatches_sub_self hC hob hobc (by decide) (codeAny_handlers_suite ?_)
  refine lands_againW hheld fun h₆ hfl₆ hsm₆ => ?_
  obtain ⟨g₆, T₆, F₆, K₆⟩ := kts_ground K F hBG hfl₆.1 ((hsm.trans hsm₅).trans hsm₆)
  have Nl : News g₆ L h₆ news := fun q hq => ⟨hfl₆.1 _ _ (hl q hq).1, (fun z => by have := (hl q hq).1; rw [z, hL] at this; cases this), T₆.none_ _ (kts_none F.keep (hl q hq).2.1)⟩
  exact wpAny_passesOwnAt hE (k h₆ g₆ T₆ F₆ Nl (XB.keeps K₆.stays) (TB.keeps K₆.stays))

theorem code_defZ {R : Result → Shared → Prop} {params : Arguments} {body : List Stmt} {dV kV doc pm cdv ct oc : Value} {an od : Option Addr} {osl : Array (Option Value)} {f : Addr} {args : Args} {binds : List (Str × Value)} {K : Frag}
    (hA : A.frames = some [env]) (hf : env.frame = some L) (hke : env.scope.kind = .function)
    (B : Below A₀ h₀ [] h₀) (F : Fr h₀ L s.heap m) (X₀ : K.In h₀) (N : News h₀ L s.heap news) (T : Top p loose mean mg mb h₀)
    (ho : K.lookup f = some ⟨oc, od, .func (fnOf name qual params body scope dV kV doc pm an cdv ct), osl⟩) (hcd : codeIn K cdv qual = true) (hroom : A.depth < recursionLimit)
    (hbind : BindsTo s (fnOf name qual params body scope dV kV doc pm an cdv ct) args binds) (hloc : ∀ y ∈ binds, scope.names.lookup y.1 = some .local)
    (h : ∀ g L' h₁, Fr g L' h₁ (fun y => binds.reverse.lookup y) → News g L' h₁ news → Below A h₀ [env] g → K.In g → Top p loose mean mg mb g → K.In h₀ → Top p loose mean mg mb h₀ →
      wpAny (model prog w) (A.deeper (envOf qual scope L' f cdv)) (execs body (envOf qual scope L' f cdv))
        (fun fl s' => LeaveS0 ([env].filterMap (·.frame)) h₀ L m g R (match fl with | .ret v => v | _ => .none) s')
        (fun e s' => wpAny (model prog w) (A.deeper (envOf qual scope L' f cdv)) (leaving (envOf qual scope L' f cdv) e) (fun _ s'' => R (.error e) s'') (fun e' s'' => R (.error e') s'') s')
        { s with heap := h₁, toks := s.toks + binds.length })
    (hco : scope.isCoroutine = false) (hgen : scope.isGenerator = false) (hk : scope.kind = .function)
    (hcell : ∀ x ∈ scope.names, x.2 ≠ .cell) : codeAny (model prog w) A (.call (.ref f) args) R s := by
  have X := X₀.keeps F.keep
  refine codeAny_call_def (fd := fnOf name qual params body scope dV kV doc pm an cdv ct) (body := body) (binds := binds) hroom (X _ _ ho) rfl (T.nolimit.keeps F.keep) (codeRec_of X hcd) rfl hbind hcell hloc (fun h₁ hns hk₁ => ?_) hco hgen hk
  obtain ⟨FG, B₂, st, -⟩ := groundX (R := R) B F N hA hf hke
  obtain ⟨oL, es, ep, hLg, hLd, hLk, hLf⟩ := FG.ns
  have eL : [env].filterMap (·.frame) = [L] := by simp [hf]
  refine wpAny_mono (h _ s.heap.objs.size h₁ ⟨hns, fun b o e => hk₁ b o (of_hideAll _ e), Nat.le_of_eq (hideAll_size _ _)⟩
    (fun p hp => ⟨hk₁ _ _ (N p hp).1, Nat.ne_of_lt (Heap.lt_size (N p hp).1), hideAll_none _ (List.mem_map_of_mem hp)⟩) B₂ (X₀.keeps st) (T.keeps st) X₀ T) (fun fl s' hl => ?_) fun _ _ y => y
  obtain ⟨g', L', m', news', T', F', N', k⟩ := hl
  have nL₀ : h₀.get? L = none := kts_self F
  rw [eL] at T'
  obtain ⟨sl, hs⟩ := T'.up hLg
  refine k ⟨⟨_, es, ep, F'.keep _ _ hs, hLd, hLk, hLf⟩, fun b o e => F'.keep b o (T'.other b o (st b o e) (fun q => by
    rw [List.mem_singleton.mp q, nL₀] at e; cases e)), F.above⟩ fun p hp => ⟨(N' p hp).1, fun q => ?_, ?_⟩
  · have := (N' p hp).2.2; rw [q, hs] at this; cases this
  · cases q : h₀.get? p.1 with
    | none => rfl
    | some o =>
      obtain ⟨sl', hs'⟩ := T'.up (st _ _ q)
      have := (N' p hp).2.2
      rw [hs'] at this
      cases this
end
def SpecZ (w : World) (f : Addr) (sz : Nat) (news : Led) (vs : List Value) (R : Value → Led → Prop) : Prop :=
  ∀ (mean : ExcName → Option Value) (mg mb : Str → Option Value) (dp un : Nat) (gd : Option (List Code)) (cn : Str) (cs : Scope) (a : Addr) (ccd : Value) (cl : List (Str × Addr)) (A₀ : Around) (h₀ : Heap) (L : Addr) (m : Str → Option Value) (s : Shared)
    (Q E : Value → Shared → Prop),
    Below A₀ h₀ [] h₀ → Fr h₀ L s.heap m → (kF w.params).In h₀ → News h₀ L s.heap news → Top pV (looseW pV looseE) mean mg mb h₀ → cs.kind = .function → dp + sz < recursionLimit → un + 8 * sz < cLine →
    (∀ r news' h' tk', Fr h₀ L h' m → News h₀ L h' news' → R r news' → Q r { s with heap := h', toks := tk' }) →
    wpAny (model PP w) (ktrTop dp un gd cn cs L a ccd cl []) (call (.ref f) vs) Q E s
inductive Fly {w : World} {S : Scope} {z : Nat} (c : Fx w S z) (J : Led → Prop) (e : Addr) (h : Heap) : Prop
  | mk (g₂ : Heap) (m : Str → Option Value) (news : Led) (F : Fr c.g c.L g₂ m) (R : RaisedSN c.base g₂ (c.env :: c.outer) e (.ref 105) news h) (hsm : g₂.UpToSlots h) (j : J news) : Fly c J e h
inductive Rz {w : World} {S : Scope} {z : Nat} (c : Fx w S z) (J : Led → Prop) (e : Addr) (h : Heap) : Prop
  | own (m : Str → Option Value) (news : Led) (t : Addr) (dO : Option Addr) (sl : Array (Option Value)) (F : Fr c.g c.L h m) (N : News c.g c.L h news) (hE : (e, mfObj t dO sl) ∈ news) (j : J (less e news)) : Rz c J e h
  | on (r : Fly c J e h) : Rz c J e h
def SpecE (w : World) (f : Addr) (sz : Nat) (news : Led) (vs : List Value) (J : Led → Prop) : Prop :=
  ∀ (S : Scope) (z : Nat) (c : Fx w S z) (m : Str → Option Value) (s : Shared) (Q E : Value → Shared → Prop), Nat.ble sz z = true → Fr c.g c.L s.heap m → News c.g c.L s.heap news →
    (∀ e h' tk', Fly c J e h' → E (.ref e) { s with heap := h', toks := tk' }) → wpAny (model PP w) c.A (call (.ref f) vs) Q E s
theorem spece_le {w : World} {f : Addr} {sz : Nat} {news : Led} {vs : List Value} {J J' : Led → Prop} (h : SpecE w f sz news vs J) (q : ∀ n, J n → J' n) : SpecE w f sz news vs J' := fun S z c m s Q E hz F N ret => h S z c m s Q E hz F N fun e h' tk' ⟨g₂, m2, n2, F2, R, hsm, j⟩ => ret e h' tk' ⟨g₂, m2, n2, F2, R, hsm, q _ j⟩
section
variable {w : World} {S : Scope} {z : Nat} {c : Fx w S z} {l l' : FL} {I I1 : Led → Prop} {J : Led → Prop}
def Sz (c : Fx w S z) (I : Led → Prop) (l : FL) (ss : List Stmt) (J : Led → Prop) : Prop :=
  ∀ (m : Str → Option Value) (s : Shared) (news : Led) (Q : Flow → Shared → Prop) (E : Value → Shared → Prop), FOk l m → Fr c.g c.L s.heap m → News c.g c.L s.heap news → I news →
    (∀ e h' tk', Rz c J e h' → E (.ref e) { s with heap := h', toks := tk' }) → wpAny (model PP w) c.A (execs ss c.env) Q E s
theorem sz_app {st : Stmt} {ss : List Stmt} (h : Sf c I l [st] l' I1) (hs : Sz c I1 l' ss J) : Sz c I l (st :: ss) J := by
  with_unfolding_all
    exact fun m s news Q E fo F N i ret =>
      wpAny_execs_cons (wpAny_mono (wpAny_execs_one (h m s news (fun f s' => f = .next ∧ wpAny (model PP w) c.A (execs ss c.env) Q E s') fo F N i fun f n1 h1 m1 tk1 F1 N1 ⟨e, fo1, i1⟩ => ⟨e, hs m1 _ n1 Q E fo1 F1 N1 i1 ret⟩)) (fun f s' ⟨e, q⟩ => by subst e; exact q) fun _ _ x => x.elim)
theorem sz_if {t : PySem.Expr} {body els ss : List Stmt} {p : Pos} {β : Bool} (ht : Et c c.env l I t β I1) (hb : Sz c I1 l (bif β then body else els) J) : Sz c I l (.If t body els p :: ss) J := by
  with_unfolding_all
    exact fun m s news Q E fo F N i ret =>
      wpAny_execs_cons (wpAny_If (ht m s news _ _ fo F N i fun n1 h' tk' F' N' i1 => by
        have x := hb m { s with heap := h', toks := tk' } n1 (fun f s' => match f with | .next => wpAny (model PP w) c.A (execs ss c.env) Q E s' | f => Q f s') E fo F' N' i1 ret
        cases β with
        | true => exact x
        | false => exact x))
theorem spec_defE {f : Addr} {news : Led} {vs : List Value} {name qual : Str} {params : Arguments} {body : List Stmt} {dV kV doc pm cdv ct oc : Value} {an od : Option Addr} {osl : Array (Option Value)} {binds : List (Str × Value)}
    {o : Obj} (ho : (kF w.params).lookup f = some o) (he : o = ⟨oc, od, .func (fnOf name qual params body S dV kV doc pm an cdv ct), osl⟩) (hcd : codeIn (kF w.params) cdv qual = true) (hb : bindArgs (fnOf name qual params body S dV kV doc pm an cdv ct) ⟨vs, []⟩ = pure binds) (hloc : ∀ y ∈ binds, S.names.lookup y.1 = some .local)
    (hco : S.isCoroutine = false) (hgen : S.isGenerator = false) (hk : S.kind = .function) (hcell : ∀ x ∈ S.names, x.2 ≠ .cell) (h : ∀ c : Fx w S z, c.cl = [] → Sz c (At news) (lOf binds.reverse) body J) : SpecE w f (z + 1) news vs J := by
  with_unfolding_all
    intro S' z' c m s Q E hz F N ret
    have hz := Nat.le_of_ble_eq_true hz
    have r1 := c.room
    have r2 := c.units
    refine wpAny_call ?_
    refine code_def c.B F c.X N c.T rfl rfl c.hk (ho.trans (congrArg some he)) hcd (show c.dp < recursionLimit by omega) (BindsTo.of_eq hb) hloc ?_ hco hgen hk hcell
    intro g L' h₁ FG F' N' B' X' T'
    refine wpAny_mono (h ⟨c.mean, c.mg, c.mb, c.dp + 1, c.un + 3, c.gd, qual, L', f, cdv, [], _, _, _, g, B', X', T', by omega, by omega, hk⟩ rfl _ _ news (fun _ _ => False) _ (fok_of _) F' N' rfl ?_) (fun _ _ x => x.elim) (fun _ _ x => x)
    intro e h' tk' r
    cases r with
    | own m2 n2 t dO sl F2 N2 hE j => exact leave_mfS B' F2 N2 hE (fun h3 R U => ret e h3 tk' (.mk g m (less e n2) FG R U j)) hk
    | on r =>
      obtain ⟨g₂, m2, n2, F2, R, hsm, j⟩ := r
      exact leave_mfO R B' hsm F2 fun h3 R3 U => ret e h3 tk' (.mk g m n2 FG R3 U j)
theorem sz_raise {x msg : Str} {e0 : PySem.Expr} {np cpos pos : Pos} {ss : List Stmt} (hx : c.env.kindOf x = some .globalImplicit) (hd : (x == ("__debug__" : Str)) = false) (ex : nsIn (kF w.params) mainGlobals x = some (some (.ref 105))) (hz : Nat.ble 8 z = true) (hu : unstarred e0 = true) (he : Ei c c.env l I e0 (isS msg) I1) (hJ : ∀ n nw, I1 n → (∀ p ∈ n, p ∈ nw) → J nw) : Sz c I l (.Raise (some (.Call (.Name x np) [e0] [] cpos)) none pos :: ss) J := by
  with_unfolding_all
    exact fun m s news Q E fo F N i ret =>
      wpAny_execs_cons (by
        have hz := Nat.le_of_ble_eq_true hz
        have r1 := c.room
        have r2 := c.units
        rw [arm_exec_Raise]
        simp only [evalOpt, Option.map]
        refine wpAny_bind (wpAny_standAt (mf_raiseStmt (w := w) rfl (wpAny_bind (wpAny_mono (wpAny_Call_ofName (nameX_K F c.X (topRead_of c.T) ex ?_ c.hk hx hd)) (fun v s₃ h₃ => wpAny_bind (wpAny_standAt (wpAny_pure h₃))) fun _ _ x => x))))
        refine mf_callWith1 (w := w) (eil_cons hu he eil_nil _ m _ news _ _ fo F N i fun vs n1 h1 tk1 F1 N1 j => ⟨c.X.keeps F1.keep, ?_⟩) (star_of hu []) rfl
        obtain ⟨u, e1, tk, e2⟩ := alls1 j.1
        subst e1 e2
        refine use_spec (spec_mf w) c.B F1 c.X N1 c.T c.hk (by omega) (by omega) fun r n2 h2 tk2 F2 N2 R => ?_
        obtain ⟨e, t, dO, sl, e3, hm, hk⟩ := R
        exact ⟨e, t, dO, sl, e3, c.X.keeps F2.keep, N2.get hm, ret e h2 tk2 (.own m n2 t dO sl F2 N2 hm (hJ n1 _ j.2 fun p hp => mem_less.mpr ⟨(hk p hp).2, (hk p hp).1⟩))⟩)
def Ez (c : Fx w S z) (I : Led → Prop) (l : FL) (e : PySem.Expr) (J : Led → Prop) : Prop :=
  ∀ (m : Str → Option Value) (s : Shared) (news : Led) (Q E : Value → Shared → Prop), FOk l m → Fr c.g c.L s.heap m → News c.g c.L s.heap news → I news →
    (∀ e h' tk', Fly c J e h' → E (.ref e) { s with heap := h', toks := tk' }) → wpAny (model PP w) c.A (eval e c.env) Q E s
theorem ez_call {fn : Str} {p3 p4 : Pos} {f : Addr} {sz : Nat} {e : PySem.Expr} {es : List PySem.Expr} {JA : List Value → Led → Prop} (hfe : Ei c c.env l I (.Name fn p3) (isR f) I) (hp : keepIn (kF w.params) (.ref f) = true) (hz : Nat.ble sz z = true) (hu : (e :: es).all unstarred = true) (ha : EgL c c.env l I (e :: es) JA)
    (hs : ∀ vs nw, JA vs nw → SpecE w f sz nw vs J) : Ez c I l (.Call (.Name fn p3) (e :: es) [] p4) J := by
  with_unfolding_all
    exact fun m s news Q E fo F N i ret =>
      Call_ (hfe m s news _ _ fo F N i fun u n0 h0 tk0 F0 N0 j0 => by
        obtain rfl : u = .ref f := j0.1
        exact callWith_K c.X hp (ha _ m _ n0 _ _ fo F0 N0 j0.2 fun vs n1 h1 tk1 F1 N1 j1 => ⟨c.X.keeps F1.keep, hs vs n1 j1 _ _ c m _ _ _ hz F1 N1 fun e h2 tk2 r => ret e h2 tk2 r⟩) (star_of (Bool.and_eq_true_iff.mp hu).1 es) (plain_of (Bool.and_eq_true_iff.mp hu).2))
theorem sz_set {x : Str} {p1 p2 : Pos} {e : PySem.Expr} {ss : List Stmt} (h : Ez c I l e J) (hn : swapsWith e (some (.Name x p1)) p2.line c.env = pure false) : Sz c I l (.Assign [.Name x p1] e p2 :: ss) J := by
  with_unfolding_all
    exact fun m s news Q E fo F N i ret =>
      wpAny_execs_cons (wpAny_Assign_Name (h m s news _ _ fo F N i fun e h2 tk2 r => ret e h2 tk2 (.on r)) hn)
theorem spec_defZ {f : Addr} {news : Led} {vs : List Value} {name qual : Str} {params : Arguments} {dV kV doc pm cdv ct oc : Value} {an od : Option Addr} {osl : Array (Option Value)} {binds : List (Str × Value)} {call : PySem.Expr} {p5 np pr ph pt pc : Pos} {kk : Nat} {x : Str} {rest : List Stmt}
    {o : Obj} (ho : (kF w.params).lookup f = some o) (he : o = ⟨oc, od, .func (fnOf name qual params (.Try [.Expr call p5] [.ExceptHandler (some (.Name x np)) none [.Return (some (.Constant (.bool true) kk pc)) pr] ph] [] [] pt :: rest) S dV kV doc pm an cdv ct), osl⟩) (hcd : codeIn (kF w.params) cdv qual = true) (hb : bindArgs (fnOf name qual params (.Try [.Expr call p5] [.ExceptHandler (some (.Name x np)) none [.Return (some (.Constant (.bool true) kk pc)) pr] ph] [] [] pt :: rest) S dV kV doc pm an cdv ct) ⟨vs, []⟩ = pure binds) (hloc : ∀ y ∈ binds, S.names.lookup y.1 = some .local)
    (hco : S.isCoroutine = false) (hgen : S.isGenerator = false) (hk : S.kind = .function) (hcell : ∀ x ∈ S.names, x.2 ≠ .cell) (hx : ∀ L, (envOf qual S L f cdv).kindOf x = some .globalImplicit) (hd : (x == ("__debug__" : Str)) = false) (ex : nsIn (kF w.params) mainGlobals x = some (some (.ref 105)))
    (hi : ∀ L, interactive (envOf qual S L f cdv) = false) (hsw : ∀ L, swapsWith call none p5.line (envOf qual S L f cdv) = pure false) (h : ∀ c : Fx w S z, c.cl = [] → Ez c (At news) (lOf binds.reverse) call J) : SpecZ w f (z + 1) news vs fun r nw => r = .bool true ∧ J nw := by
  with_unfolding_all
    unfold SpecZ
    intro mean mg mb dp un gd cn cs a ccd cl A₀ h₀ L m s Q E B F X N T hk' hdp hu hret
    refine wpAny_call ?_
    refine code_defZ rfl rfl hk' B F X N T (ho.trans (congrArg some he)) hcd (show dp < recursionLimit from Nat.lt_of_le_of_lt (Nat.le_add_right _ _) hdp) (BindsTo.of_eq hb) hloc ?_ hco hgen hk hcell
    intro g L' h₁ F' N' B' X' T' X₀ T₀
    refine wpAny_execs_cons (wpAny_Try_except (wpAny_execs_cons (wpAny_Expr (h ⟨mean, mg, mb, dp + 1, un + 3, gd, qual, L', f, cdv, [], _, _, _, g, B', X', T', by omega, by omega, hk⟩ rfl _ _ news _ _ (fok_of _) F' N' rfl fun e h' tk' r => ?_) (hi L') (hsw L'))))
    obtain ⟨g₂, m2, n2, F2, R, hsm, j⟩ := r
    refine caught_mfS R F2 B' hsm X₀ T₀ ex (fun h3 g3 KT F3 N3 X3 T3 => ?_) hk (hx L') hd
    exact wpAny_execs_cons (wpAny_Return_some (wpAny_pure (leaveS0_ F3 N3 KT fun F4 N4 => hret _ n2 _ _ F4 N4 ⟨rfl, j⟩)))
theorem sz_ifF {t : PySem.Expr} {body ss : List Stmt} {p : Pos} (ht : Et c c.env l I t false I1) (hs : Sz c I1 l ss J) : Sz c I l (.If t body [] p :: ss) J := sz_app (sr_ifF ht (sf_nil (fun _ i => i) fun _ q => q)) hs
theorem ei_fstrS {y x : Str} {e : PySem.Expr} {p1 p2 p3 : Pos} {k : Nat} (h : Ei c c.env l I e (isS y) I1) (hy : y.length ≤ 20) (hx : x.length ≤ 1000) : Ei c c.env l I (.JoinedStr [.FormattedValue e (-1) none p1, .Constant (.str x) k p2] p3) (isS (Str.empty ++ y ++ x)) I1 := by
  with_unfolding_all
    exact fun m s news Q E fo F N i ret =>
      have q : (Str.empty ++ y ++ x).length ≤ sizeLine := by
        simp only [Str.length_append, show Str.empty.length = 0 from rfl, sizeLine_eq]; omega
      have q1 : (Str.empty ++ y).length ≤ sizeLine := by
        simp only [Str.length_append, show Str.empty.length = 0 from rfl, sizeLine_eq]; omega
      JoinedStr_many (joinParts_cons (FormattedValue_plain (h m s news _ E fo F N i fun u n1 h1 tk1 F1 N1 j1 => by
        obtain ⟨⟨t, e⟩, i1⟩ := j1
        subst e
        have q2 : y.length ≤ sizeLine := by rw [sizeLine_eq]; omega
        exact SB.field_str (fun t' k' => ⟨q1, joinParts_consE (joinParts_cons (Constant_str ⟨q, joinParts_nilE (joinParts_nil (ret _ n1 h1 _ F1 N1 ⟨⟨_, rfl⟩, i1⟩) q)⟩))⟩) q2)))
end
inductive Many (news : Led) (n : Nat) (u : Value) (nw : Led) : Prop
  | mk (V T : Addr) (hu : u = .ref V) (hm : (V, tupO (List.toArray (List.replicate n (Value.ref T))) 0) ∈ nw) (hT : BvIn nw T 0 1) (hx : Ext news nw) : Many news n u nw
section
variable {w : World} {S : Scope} {z : Nat} {c : Fx w S z} {l : FL} {news : Led}
theorem eg_many {y : Str} {n : Nat} (hn : n = 1 ∨ n = 2) {k0 k3 k4 : Nat} {k1 k2 : Tok} {p0 p1 p2 p3 p4 p5 p6 : Pos} (hy : ∀ I : Led → Prop, Ei c c.env l I (.Name y p5) (isI n) I) : Eg c c.env l (Ext news) (.BinOp (.Tuple [.Tuple [.Constant (.str (Str.ofString "bv")) k0 p0, .Constant (.int 0) k1 p1, .Constant (.int 1) k2 p2] k3 p3] k4 p4) .Mult (.Name y p5) p6) (Many news n) := by
  with_unfolding_all
    exact fun m s nw Q E fo F N i ret =>
      wpAny_BinOp (eg_tuple (egl_cons (es := []) (J := fun vs nw => ∃ T, vs = [.ref T] ∧ BvIn nw T 0 1 ∧ Ext news nw) rfl (eg_tuple (eil_cons rfl ei_str (eil_cons rfl ei_int (eil_cons rfl ei_int eil_nil))) fun vs nw j => by rw [alls_len j.1]; exact Nat.le_of_ble_eq_true rfl) fun u => egl_nil fun nw j => by
          obtain ⟨D, vs, n0, e1, e2, j, _⟩ := j
          obtain ⟨v1, v2, v3, e3, ⟨t1, f1⟩, ⟨t2, f2⟩, ⟨t3, f3⟩⟩ := alls3 j.1
          subst e1 e2 e3 f1 f2 f3
          exact ⟨D, rfl, ⟨t1, t2, t3, .head _⟩, fun p hp => .tail _ (j.2 p hp)⟩) (fun vs nw ⟨T, e, _⟩ => by rw [e]; exact Nat.le_of_ble_eq_true rfl) m s nw _ E fo F N i fun u n1 h1 tk1 F1 N1 j1 => hy (fun nw => nw = n1) m _ n1 _ E fo F1 N1 rfl fun v n2 h2 tk2 F2 N2 j2 => by
        obtain ⟨⟨t, e4⟩, e5⟩ := j2
        obtain ⟨V, vs, n0, e1, e2, ⟨T, e3, hT, hx⟩, _⟩ := j1
        subst e1 e3 e4 e5
        obtain ⟨a, b, d, hT⟩ := hT
        have hm : (V, tupO #[.ref T] 0) ∈ n2 := by rw [e2]; exact .head _
        have hT2 : (T, bvT 0 1 a b d) ∈ n2 := by rw [e2]; exact .tail _ hT
        have hx2 : Ext news n2 := fun p hp => by rw [e2]; exact .tail _ (hx p hp)
        rcases hn with rfl | rfl
        · exact tm_1 N2 hm (ret _ n2 h2 _ F2 N2 ⟨V, T, rfl, hm, ⟨a, b, d, hT2⟩, hx2⟩)
        · exact tm_2 F2 N2 hm fun D h' F' N' _ => ret _ _ h' _ F' N' ⟨D, T, rfl, .head _, ⟨a, b, d, .tail _ hT2⟩, fun p hp => .tail _ (hx2 p hp)⟩)
end
theorem spec_oneE (w : World) {news : Led} {J : Led → Prop} {op : Str} {x wd : Int} (h4 : (op == Str.ofString "bvnot") = false) (h5 : (op == Str.ofString "bvneg") = false) (hl : op.length ≤ 20) (hJ : ∀ n, Ext news n → J n) : PtE [.S op, .I x, .I wd] fun vs => SpecE w 156 9 news vs J := fun t1 t2 t3 =>
  spec_defE (o := o156) (binds := [(Str.ofString "op", Value.str op t1), (Str.ofString "x", .int x t2), (Str.ofString "width", .int wd t3)]) (by kernel_rfl) rfl (by kernel_rfl) rfl (locs rfl) rfl rfl rfl (by decide) fun c _ =>
    sz_ifF (ti_to (ti_eqS (ei_name rfl) ei_str) h4) (sz_ifF (ti_to (ti_eqS (ei_name rfl) ei_str) h5) (sz_raise (by kernel_rfl) (by decide) (by kernel_rfl) rfl rfl (ei_fstrS (ei_name rfl) hl (by decide)) fun n nw e q => hJ nw fun p hp => q p (by rw [show n = news from e]; exact hp)))
section
variable (w : World) {b : BA} {ts : List Term} {ws : List Int} {c : Nat} {news : Led} {op : Str} {t so x wx wd : Int} {d : Sum Int (Int × Int)} {tk : Tok} {V T1 : Addr} {vs : List Value}
theorem spec_bitsE (hb : FB w b ts ws c news) (h0 : 0 ≤ t) (hx : ts[t.toNat]? = some (op, so, d)) (hs0 : 0 ≤ so) (hw : ws[so.toNat]? = some wd) (hV : (V, tupO (List.toArray (.ref T1 :: vs)) 0) ∈ news) (hT : BvIn news T1 x wx)
    (hP : ∀ c : Fx w S749 9, Sz c (Ext news) (LB b t tk V op x wd) ((bodyOf (pickS 35)).drop 2) (Ext news)) : SpecE w 749 10 news [.ref b.M.B, .int t tk, .ref V] (Ext news) := by
  have hW : ∀ nw, At news nw → HasW w b t (op, so, d) wd nw := at_self ⟨ts, ws, _, hb, ⟨h0, hx⟩, hs0, hw⟩
  have hB : ∀ nw, At news nw → FB w b ts ws c nw := at_self hb
  refine spec_defE (o := o749) (binds := [(Str.ofString "bank", Value.ref b.M.B), (Str.ofString "t", .int t tk), (Str.ofString "values", .ref V)]) (by kernel_rfl) rfl (by kernel_rfl) rfl (locs rfl) rfl rfl rfl (by decide) fun c _ => ?_
  refine sz_app (sr_tup2 (I2 := Ext news) (U1 := isS op) (U2 := isI wd) (by kernel_rfl) (by kernel_rfl) rfl rfl (eil_cons rfl (ei_methQ [.I t] (sz := 1) bm_op (ei_name rfl) (fun nw i => (hW nw i).tm.bs) (fun es af => af.op) rfl rfl (eil_cons rfl (ei_name rfl) eil_nil) rfl rfl fun nw i _ => spec_op w (hB nw i) h0 hx) (eil_cons rfl (ei_width hW (ei_name rfl) (ei_name rfl) rfl rfl rfl) eil_nil)) (fun e nw i p hp => .tail _ (by rw [show nw = news from i]; exact hp)) (sf_nil (fun _ i => i) fun _ fo => fo)) ?_
  exact sz_app (si_set (U := isI x) rfl (by kernel_rfl) (ei_valN (ei_val (ei_name rfl) (fun nw i => i _ hV) rfl (by decide) (by decide)) fun nw i => let ⟨a, b, c, h⟩ := hT; ⟨a, b, c, i _ h⟩) (sf_nil (fun _ i => i) fun _ fo => fo)) (hP c)
theorem spec_ref (hb : FB w b ts ws c news) {n : Nat} {t2 : Tok} (hn : n = 1 ∨ n = 2) (hE : ∀ (tk : Tok) (V T : Addr) (nw : Led), FB w b ts ws c nw → (V, tupO (List.toArray (List.replicate n (Value.ref T))) 0) ∈ nw → BvIn nw T 0 1 → SpecE w 749 10 nw [.ref b.M.B, .int t tk, .ref V] (Ext nw)) : SpecZ w 775 20 news [.ref b.M.B, .int t tk, .int n t2] (fun r news' => r = .bool true ∧ ∀ p ∈ news, p ∈ news') :=
  spec_defZ (o := o775) (binds := [(Str.ofString "bank", Value.ref b.M.B), (Str.ofString "t", .int t tk), (Str.ofString "many", .int n t2)]) (by kernel_rfl) rfl (by kernel_rfl) rfl (locs rfl) rfl rfl rfl (by decide) (fun _ => by kernel_rfl) (by decide) (by kernel_rfl) (fun _ => by kernel_rfl) (fun _ => rfl) fun c _ =>
    ez_call (f := 749) (sz := 10) (JA := fun vs nw => ∃ tk V T, vs = [.ref b.M.B, .int t tk, .ref V] ∧ (V, tupO (List.toArray (List.replicate n (Value.ref T))) 0) ∈ nw ∧ BvIn nw T 0 1 ∧ Ext news nw) ei_glob (by kernel_rfl) rfl rfl
      (egl_pre (I := Ext news) (egl_cons rfl (ei_name rfl) fun u => egl_and fun e1 => egl_cons rfl (ei_name rfl) fun u => egl_and fun e2 => egl_cons rfl (eg_many hn fun I => ei_name rfl (by kernel_rfl) (by decide)) fun u => egl_nil fun nw j => by
        obtain ⟨V, T, e3, hm, hT, hx⟩ := j
        obtain ⟨t9, e2⟩ := e2
        subst e1 e2 e3
        exact ⟨t9, V, T, rfl, hm, hT, hx⟩) fun nw e p hp => by rw [show nw = news from e]; exact hp)
      fun vs nw ⟨t9, V, T, e, hm, hT, hx⟩ => by
        subst e
        exact spece_le (hE t9 V T nw (hb.mono hx) hm hT) fun n q p hp => q p (hx p hp)
variable (hb : FB w b ts ws c news) (h0 : 0 ≤ t) (hx : ts[t.toNat]? = some (op, so, d)) (hs0 : 0 ≤ so) (hw : ws[so.toNat]? = some wd) (hl : op.length ≤ 20)
include hb h0 hx hs0 hw hl
theorem spec_bitsE2 (hV : (V, tupO #[.ref T1, .ref T1] 0) ∈ news) (hT : BvIn news T1 x wx) (hn1 : (op == Str.ofString "concat") = false) (hn2 : ([Str.ofString "bvand", Str.ofString "bvor", Str.ofString "bvxor", Str.ofString "bvadd", Str.ofString "bvsub", Str.ofString "bvmul", Str.ofString "bvshl", Str.ofString "bvlshr", Str.ofString "bvudiv", Str.ofString "bvurem"] : List Str).any (· == op) = false) :
    SpecE w 749 10 news [.ref b.M.B, .int t tk, .ref V] (Ext news) :=
  spec_bitsE w hb h0 hx hs0 hw hV hT fun c => sz_if (pick_len hV rfl rfl) (sz_if (ti_to (ti_eqS (ei_name rfl) ei_str) hn1) (sz_if (ti_inT (d := 206) (dd := none) (n := 0) (sl := #[]) (ei_name rfl) (by kernel_rfl) (by decide) (by kernel_rfl) (by kernel_rfl) same_strs hn2)
    (sz_raise (by kernel_rfl) (by decide) (by kernel_rfl) rfl rfl (ei_fstrS (ei_name rfl) hl (by decide)) fun n nw i q p hp => q p (i p hp))))
theorem spec_bitsE1 (hV : (V, tupO #[.ref T1] 0) ∈ news) (hT : BvIn news T1 x wx) (hn1 : (op == Str.ofString "extract") = false) (hn2 : (op == Str.ofString "zero_extend") = false) (hn3 : (op == Str.ofString "sign_extend") = false) (hn4 : (op == Str.ofString "bvnot") = false) (hn5 : (op == Str.ofString "bvneg") = false) :
    SpecE w 749 10 news [.ref b.M.B, .int t tk, .ref V] (Ext news) :=
  spec_bitsE w hb h0 hx hs0 hw hV hT fun c => sz_if (pick_len hV rfl rfl) (sz_if (ti_to (ti_eqS (ei_name rfl) ei_str) hn1) (sz_if (ti_to (ti_eqS (ei_name rfl) ei_str) hn2) (sz_if (ti_to (ti_eqS (ei_name rfl) ei_str) hn3)
    (sz_set (ez_call (f := 156) (sz := 9) ei_glob (by kernel_rfl) rfl rfl (eil_cons rfl (ei_name rfl) (eil_cons rfl (ei_name rfl) (eil_cons rfl (ei_name rfl) eil_nil))) fun vs nw j => pt_elim (ps := [.S op, .I x, .I wd]) (spec_oneE w hn4 hn5 hl fun n q p hp => q p (j.2 p hp)) j.1) rfl))))
theorem spec_refused2 {t2 : Tok} (hn1 : (op == Str.ofString "concat") = false) (hn2 : ([Str.ofString "bvand", Str.ofString "bvor", Str.ofString "bvxor", Str.ofString "bvadd", Str.ofString "bvsub", Str.ofString "bvmul", Str.ofString "bvshl", Str.ofString "bvlshr", Str.ofString "bvudiv", Str.ofString "bvurem"] : List Str).any (· == op) = false) : SpecZ w 775 20 news [.ref b.M.B, .int t tk, .int 2 t2] (fun r news' => r = .bool true ∧ ∀ p ∈ news, p ∈ news') :=
  spec_ref (n := 2) w hb (.inr rfl) fun _ V T nw hb hV hT => spec_bitsE2 w hb h0 hx hs0 hw hl hV hT hn1 hn2
theorem spec_refused1 {t2 : Tok} (hn1 : (op == Str.ofString "extract") = false) (hn2 : (op == Str.ofString "zero_extend") = false) (hn3 : (op == Str.ofString "sign_extend") = false) (hn4 : (op == Str.ofString "bvnot") = false) (hn5 : (op == Str.ofString "bvneg") = false) : SpecZ w 775 20 news [.ref b.M.B, .int t tk, .int 1 t2] (fun r news' => r = .bool true ∧ ∀ p ∈ news, p ∈ news') :=
  spec_ref (n := 1) w hb (.inl rfl) fun _ V T nw hb hV hT => spec_bitsE1 w hb h0 hx hs0 hw hl hV hT hn1 hn2 hn3 hn4 hn5
end

section
variable {w : World} {b : BA} {ts : List Term} {ws : List Int} {c : Nat} {T T' : Led} {h₀ h : Heap} {L W C : Addr} {arr : Array Value} {wd ta tb so : Int}
theorem BA.Ord.DV (h : b.Ord) : b.M.D < b.V := h.lt (i := 0) (j := 12) (by decide) (by decide)
theorem WO.offD (h : WO w b ts ws c W wd ta tb so T) (hs : ∀ p ∈ T, (IsT p.2 ∨ @LE.le Nat _ b.M.D p.1) → p ∈ T') : WO w b ts ws c W wd ta tb so T' :=
  h.upd (h.fb.offD hs) (List.prefix_refl _) (List.prefix_refl _) (h.dict.on fun _ hm => hs _ hm (.inr (Nat.le_of_lt (Nat.lt_trans h.fb.ord.DV h.above))))
theorem newsOne (N : News h₀ L h T) {a : Addr} {o o' : Obj} (h1 : (a, o) ∈ T) (h2 : (a, o') ∈ T) : o = o' := Option.some.inj ((N _ h1).1.symm.trans (N _ h2).1)
theorem off_hit (N : News h₀ L h T) {x : Addr} {o : Obj} (hm : (x, o) ∈ T) (ho : ∀ vs n, o.data = .seq vs n → o.cls ≠ .type "tuple") (hx : @LT.lt Nat _ x b.M.D) {p : Addr × Obj} (hp : p ∈ T) (q : IsT p.2 ∨ @LE.le Nat _ b.M.D p.1) : @Ne Nat p.1 x := fun e => by
  rcases q with q | q
  · obtain ⟨a, o'⟩ := p
    obtain rfl : a = x := e
    have := newsOne N hp hm
    subst this
    obtain ⟨hc, vs, n, hd⟩ := q
    exact ho _ _ hd hc
  · exact Nat.lt_irrefl _ (Nat.lt_of_lt_of_le hx (e ▸ q))
theorem FB.cell (hb : FB w b ts ws c T) (N : News h₀ L h T) {x : Addr} {o o' : Obj} {v : Option Value} (hm : (x, o) ∈ T) (hd : o.data = .cell v) (hx : @LT.lt Nat _ x b.M.D) : FB w b ts ws c ((x, o') :: less x T) :=
  hb.offD fun p hp q => .tail _ (mem_less.mpr ⟨hp, off_hit N hm (fun vs n e => by rw [hd] at e; cases e) hx hp q⟩)
theorem JackIs.hit {J : Addr} {pl : Int} (jk : JackIs C arr T J pl) (N : News h₀ L h T) (hJ : @LT.lt Nat _ J b.M.D) {p : Addr × Obj} (hp : p ∈ T) (q : IsT p.2 ∨ @LE.le Nat _ b.M.D p.1) : @Ne Nat p.1 J := by
  obtain ⟨ns, e, e', t, jk⟩ := jk
  exact off_hit (b := b) N jk.jack (fun vs n q z => absurd (show Value.type "list" = Value.type "tuple" from z) (by simp)) hJ hp q
theorem FB.jack (hb : FB w b ts ws c T) (N : News h₀ L h T) {J : Addr} {pl : Int} (jk : JackIs C arr T J pl) (hJ : @LT.lt Nat _ J b.M.D) (hk : ∀ p ∈ T, @Ne Nat p.1 J → p ∈ T') : FB w b ts ws c T' :=
  hb.offD fun p hp q => hk p hp (jk.hit N hJ hp q)
theorem WO.jack (hb : WO w b ts ws c W wd ta tb so T) (N : News h₀ L h T) {J : Addr} {pl : Int} (jk : JackIs C arr T J pl) (hJ : @LT.lt Nat _ J b.M.D) (hk : ∀ p ∈ T, @Ne Nat p.1 J → p ∈ T') : WO w b ts ws c W wd ta tb so T' :=
  hb.offD fun p hp q => hk p hp (jk.hit N hJ hp q)
theorem JackIs.cell {J : Addr} {pl : Int} (jk : JackIs C arr T J pl) (N : News h₀ L h T) {x : Addr} {o o' : Obj} {v : Option Value} (hm : (x, o) ∈ T) (hd : o.data = .cell v) : JackIs C arr ((x, o') :: less x T) J pl := by
  obtain ⟨ns, e, e', t, h1, h2, h3, h4, h5, h6, h7⟩ := jk
  have ne : ∀ {a : Addr} {vs : Array Value} {k : Nat}, (a, listOf vs k) ∈ T → @Ne Nat a x := fun {a vs k} ha z => by
    obtain rfl : a = x := z
    have q := newsOne N ha hm
    rw [← q] at hd; cases hd
  exact ⟨ns, e, e', t, .tail _ (mem_less.mpr ⟨h1, ne h1⟩), .tail _ (mem_less.mpr ⟨h2, ne h2⟩), h3, h4, h5, h6, h7⟩
theorem jack_of (N : News h₀ L h T) {J D : Addr} {ys : List Value} {ns : List Int} {e : Nat} {tk : Tok} (h1 : (J, listOf #[.ref D, .int 0 tk] e) ∈ T) (h2 : (D, LCg.lst ys) ∈ T) (hI : IntsAre ys (List.map (fun k' => k'.fmod 1048573) (List.take 30 ns))) : JackIs D ys.toArray T J 0 := by
  have hl := hI.length
  refine ⟨List.map (fun k' => k'.fmod 1048573) (List.take 30 ns), e, _, tk, h1, h2, by simpa using hI, ?_, ?_, ?_, Int.le_refl _⟩
  · intro n hn
    obtain ⟨k, _, rfl⟩ := List.mem_map.mp hn
    exact ⟨Int.fmod_nonneg_of_pos _ (by decide), Int.fmod_lt_of_pos _ (by decide)⟩
  · simp only [List.size_toArray, hl, List.length_map, List.length_take]; omega
  · intro z
    obtain rfl : D = J := z
    have q := newsOne N h1 h2
    have q2 : (#[Value.ref D, .int 0 tk] : Array Value) = ys.toArray := by
      have := congrArg Obj.data q
      injection this
    have q3 : [Value.ref D, .int 0 tk] = ys := by simpa using congrArg Array.toList q2
    rw [← q3] at hI
    cases hI
end

structure LJ (D : Nat) (T : Led) (x1 x2 x3 : Nat) (v1 v2 v3 : Option Value) (J C : Addr) (arr : Array Value) (pl : Int) : Prop where
  jk : JackIs C arr T J pl
  c1 : ∃ o, (x1, o) ∈ T ∧ o.data = .cell v1
  c2 : ∃ o, (x2, o) ∈ T ∧ o.data = .cell v2
  c3 : ∃ o, (x3, o) ∈ T ∧ o.data = .cell v3
  l1 : x1 < D
  l2 : x2 < D
  l3 : x3 < D
  lJ : @LT.lt Nat _ J D
  lC : @LT.lt Nat _ C D
  n12 : x1 ≠ x2
  n13 : x1 ≠ x3
  n23 : x2 ≠ x3
section
variable {w : World} {b : BA} {ts : List Term} {ws : List Int} {c D : Nat} {T T' : Led} {h₀ h h' : Heap} {L W C J : Addr} {arr : Array Value} {wd ta tb so pl pl' : Int} {x1 x2 x3 : Nat} {v1 v2 v3 : Option Value} {v : Value}
theorem LJ.kept (lj : LJ D T x1 x2 x3 v1 v2 v3 J C arr pl) (hk : ∀ p ∈ T, @LT.lt Nat _ p.1 D → p ∈ T') : LJ D T' x1 x2 x3 v1 v2 v3 J C arr pl where
  jk := let ⟨ns, e, e', t, h1, h2, h3, h4, h5, h6, h7⟩ := lj.jk; ⟨ns, e, e', t, hk _ h1 lj.lJ, hk _ h2 lj.lC, h3, h4, h5, h6, h7⟩
  c1 := let ⟨o, h1, h2⟩ := lj.c1; ⟨o, hk _ h1 lj.l1, h2⟩
  c2 := let ⟨o, h1, h2⟩ := lj.c2; ⟨o, hk _ h1 lj.l2, h2⟩
  c3 := let ⟨o, h1, h2⟩ := lj.c3; ⟨o, hk _ h1 lj.l3, h2⟩
  l1 := lj.l1
  l2 := lj.l2
  l3 := lj.l3
  lJ := lj.lJ
  lC := lj.lC
  n12 := lj.n12
  n13 := lj.n13
  n23 := lj.n23
theorem LJ.cons {e : Addr × Obj} (lj : LJ D T x1 x2 x3 v1 v2 v3 J C arr pl) : LJ D (e :: T) x1 x2 x3 v1 v2 v3 J C arr pl := lj.kept fun p hp _ => .tail _ hp
theorem LJ.keptB (lj : LJ b.M.D T x1 x2 x3 v1 v2 v3 J C arr pl) (hk : Kept b T T') : LJ b.M.D T' x1 x2 x3 v1 v2 v3 J C arr pl := lj.kept fun p hp h => hk p hp (.inr (.inr (.inl h)))
theorem LJ.lift (lj : LJ D T x1 x2 x3 v1 v2 v3 J C arr pl) (N : News h₀ L h T) (jk : JackIs C arr T' J pl') (hk : ∀ p ∈ T, @Ne Nat p.1 J → p ∈ T') : LJ D T' x1 x2 x3 v1 v2 v3 J C arr pl' := by
  have ne : ∀ {x : Nat} {o : Obj} {v : Option Value}, (x, o) ∈ T → o.data = .cell v → @Ne Nat x J := fun {x o v} hm hd z => by
    obtain ⟨ns, e, e', t, h1, _⟩ := lj.jk
    obtain rfl : x = J := z
    have q := newsOne N hm h1
    subst q
    cases hd
  exact {
    jk := jk
    c1 := let ⟨o, h1, h2⟩ := lj.c1; ⟨o, hk _ h1 (ne h1 h2), h2⟩
    c2 := let ⟨o, h1, h2⟩ := lj.c2; ⟨o, hk _ h1 (ne h1 h2), h2⟩
    c3 := let ⟨o, h1, h2⟩ := lj.c3; ⟨o, hk _ h1 (ne h1 h2), h2⟩
    l1 := lj.l1
    l2 := lj.l2
    l3 := lj.l3
    lJ := lj.lJ
    lC := lj.lC
    n12 := lj.n12
    n13 := lj.n13
    n23 := lj.n23 }
theorem ls_1 (N : News h₀ L h T) (fb : FB w b ts ws c T) (lj : LJ b.M.D T x1 x2 x3 v1 v2 v3 J C arr pl) {o o' : Obj} (hm : (x1, o) ∈ T) (hd : o.data = .cell v1) (hN : News h₀ L h' ((x1, o') :: less x1 T)) (hd' : o'.data = .cell (some v)) :
   ∃ T', News h₀ L h' T' ∧ FB w b ts ws c T' ∧ LJ b.M.D T' x1 x2 x3 (some v) v2 v3 J C arr pl :=
  ⟨_, hN, fb.cell N hm hd lj.l1, {
    jk := lj.jk.cell N hm hd
    c1 := ⟨o', .head _, hd'⟩
    c2 := let ⟨o, h1, h2⟩ := lj.c2; ⟨o, .tail _ (mem_less.mpr ⟨h1, Ne.symm lj.n12⟩), h2⟩
    c3 := let ⟨o, h1, h2⟩ := lj.c3; ⟨o, .tail _ (mem_less.mpr ⟨h1, Ne.symm lj.n13⟩), h2⟩
    l1 := lj.l1
    l2 := lj.l2
    l3 := lj.l3
    lJ := lj.lJ
    lC := lj.lC
    n12 := lj.n12
    n13 := lj.n13
    n23 := lj.n23 }⟩
theorem ls_2 (N : News h₀ L h T) (fb : FB w b ts ws c T) (lj : LJ b.M.D T x1 x2 x3 v1 v2 v3 J C arr pl) {o o' : Obj} (hm : (x2, o) ∈ T) (hd : o.data = .cell v2) (hN : News h₀ L h' ((x2, o') :: less x2 T)) (hd' : o'.data = .cell (some v)) :
   ∃ T', News h₀ L h' T' ∧ FB w b ts ws c T' ∧ LJ b.M.D T' x1 x2 x3 v1 (some v) v3 J C arr pl :=
  ⟨_, hN, fb.cell N hm hd lj.l2, {
    jk := lj.jk.cell N hm hd
    c1 := let ⟨o, h1, h2⟩ := lj.c1; ⟨o, .tail _ (mem_less.mpr ⟨h1, lj.n12⟩), h2⟩
    c2 := ⟨o', .head _, hd'⟩
    c3 := let ⟨o, h1, h2⟩ := lj.c3; ⟨o, .tail _ (mem_less.mpr ⟨h1, Ne.symm lj.n23⟩), h2⟩
    l1 := lj.l1
    l2 := lj.l2
    l3 := lj.l3
    lJ := lj.lJ
    lC := lj.lC
    n12 := lj.n12
    n13 := lj.n13
    n23 := lj.n23 }⟩
theorem LJ.set3 (lj : LJ D T x1 x2 x3 v1 v2 v3 J C arr pl) (N : News h₀ L h T) {o o' : Obj} (hm : (x3, o) ∈ T) (hd : o.data = .cell v3) (hd' : o'.data = .cell (some v)) : LJ D ((x3, o') :: less x3 T) x1 x2 x3 v1 v2 (some v) J C arr pl where
  jk := lj.jk.cell N hm hd
  c1 := let ⟨o, h1, h2⟩ := lj.c1; ⟨o, .tail _ (mem_less.mpr ⟨h1, lj.n13⟩), h2⟩
  c2 := let ⟨o, h1, h2⟩ := lj.c2; ⟨o, .tail _ (mem_less.mpr ⟨h1, lj.n23⟩), h2⟩
  c3 := ⟨o', .head _, hd'⟩
  l1 := lj.l1
  l2 := lj.l2
  l3 := lj.l3
  lJ := lj.lJ
  lC := lj.lC
  n12 := lj.n12
  n13 := lj.n13
  n23 := lj.n23
theorem cellN {o : Obj} {x : Nat} (h : (x, o) ∈ T) (hd : o.data = .cell none) : ∃ o, (x, o) ∈ T ∧ o.data = .cell none := ⟨o, h, hd⟩
end

theorem wo_of {w : World} {b : BA} {ts : List Term} {ws : List Int} {c : Nat} {T : Led} {h₀ h : Heap} {L W : Addr} {o o' : Obj} {wd ta tb so : Int} {t0 t1 t2 : Tok} (N : News h₀ L h T) (fb : FB w b ts ws c T) (hm : (W, o) ∈ T) (hc : o.cls = .type "dict") (hV : @LT.lt Nat _ b.V W)
  (hd' : o'.IsDictOf (strKind PP w) [(Str.ofString "bank", .ref b.M.B), (Str.ofString "width", .int wd t0), (Str.ofString "a", .int ta t1), (Str.ofString "b", .int tb t2)])
  (a0 : 0 ≤ ta) (b0 : 0 ≤ tb) (xa : ∃ o d, ts[ta.toNat]? = some (o, so, d)) (xb : ∃ o d, ts[tb.toNat]? = some (o, so, d)) (s0 : 0 ≤ so) (hw : ws[so.toNat]? = some wd) (w1 : 1 ≤ wd) (w2 : wd ≤ 70) : WO w b ts ws c W wd ta tb so ((W, o') :: less W T) where
  fb := fb.off fun p hp q => .tail _ (less_of N hm hc (by simp) hV hp q)
  above := hV
  dict := ⟨o', _, .head _, hd', by rfl, ⟨t0, by rfl⟩, ⟨t1, by rfl⟩, ⟨t2, by rfl⟩⟩
  a0 := a0
  b0 := b0
  xa := xa
  xb := xb
  s0 := s0
  hw := hw
  w1 := w1
  w2 := w2
theorem LJ.dict {D : Nat} {T : Led} {x1 x2 x3 : Nat} {v1 v2 v3 : Option Value} {J C W : Addr} {arr : Array Value} {pl : Int} {o' : Obj} (lj : LJ D T x1 x2 x3 v1 v2 v3 J C arr pl) (h : @LT.lt Nat _ D W) : LJ D ((W, o') :: less W T) x1 x2 x3 v1 v2 v3 J C arr pl :=
  lj.kept fun p hp q => .tail _ (mem_less.mpr ⟨hp, Nat.ne_of_lt (Nat.lt_trans q h)⟩)
def NJ (w : World) (b : BA) (ts : List Term) (ws : List Int) (c : Nat) (W : Addr) (wd ta tb so : Int) (x1 x2 x3 : Nat) (v1 v2 v3 : Option Value) (J C : Addr) (arr : Array Value) (p0 : Int) (i : Nat) (ys : List Value) (nw : Led) : Prop :=
  WO w b ts ws c W wd ta tb so nw ∧ (∃ pl, LJ b.M.D nw x1 x2 x3 v1 v2 v3 J C arr pl ∧ pl ≤ p0 + 3 * i) ∧ ys.length = i ∧ ∀ (j : Nat) y, ys[j]? = some y → ∃ v t, y = .int v t ∧ 0 ≤ v ∧ v < 2 ^ wd.toNat
section
variable {w : World} {b : BA} {ts : List Term} {ws : List Int} {c i : Nat} {W : Addr} {wd ta tb so : Int} {x1 x2 x3 : Nat} {v1 v2 v3 : Option Value} {J C : Addr} {arr : Array Value} {p0 pl q : Int} {ys : List Value} {nw T9 : Led} {h₀ h h' : Heap} {L I Cc D : Addr} {m m₂ : Str → Option Value} {s₁ : Shared} {oI oC : Obj} {nI : String} {v : Int} {t : Tok} {tk : Nat}
theorem NJ.turn (N8 : News h₀ L h ((I, oI) :: (Cc, oC) :: (D, LCg.lst ys) :: nw)) (wo : WO w b ts ws c W wd ta tb so nw) (lj : LJ b.M.D nw x1 x2 x3 v1 v2 v3 J C arr pl) (hpl : pl ≤ p0 + 3 * i) (hl : ys.length = i) (hy : ∀ (j : Nat) y, ys[j]? = some y → ∃ v t, y = .int v t ∧ 0 ≤ v ∧ v < 2 ^ wd.toNat)
   (kI : oI.cls = .type nI) (zI : Value.type nI ≠ .type "tuple") (hoC : LCg.NsObj oC m₂) (ord : @LT.lt Nat _ W I ∧ @LT.lt Nat _ W Cc ∧ @LT.lt Nat _ W D) (F9 : Fr h₀ L h' m) (N9 : News h₀ L h' T9) (hj9 : JackIs C arr T9 J q) (hq : q ≤ pl + 3)
   (hk9 : ∀ p ∈ ((I, oI) :: (Cc, oC) :: (D, LCg.lst ys) :: nw), @Ne Nat p.1 J → p ∈ T9) (hv0 : 0 ≤ v) (hv1 : v < 2 ^ wd.toNat) :
   TurnEnd h₀ L m s₁ I oI Cc oC D (LCg.lst ys) (fun y nw' => NJ w b ts ws c W wd ta tb so x1 x2 x3 v1 v2 v3 J C arr p0 (i + 1) (ys ++ [y]) nw') (.int v t) { s₁ with heap := h', toks := tk } := by
  have hDW : b.M.D < W := Nat.lt_trans wo.fb.ord.DV wo.above
  have lJ : @LT.lt Nat _ J b.M.D := lj.lJ
  have o1 : @LT.lt Nat _ b.M.D I := Nat.lt_trans hDW ord.1
  have o2 : @LT.lt Nat _ b.M.D Cc := Nat.lt_trans hDW ord.2.1
  have o3 : @LT.lt Nat _ b.M.D D := Nat.lt_trans hDW ord.2.2
  have mI := hk9 _ (.head _) (Ne.symm (Nat.ne_of_lt (Nat.lt_trans lJ o1)))
  have mC := hk9 _ (.tail _ (.head _)) (Ne.symm (Nat.ne_of_lt (Nat.lt_trans lJ o2)))
  have mD := hk9 _ (.tail _ (.tail _ (.head _))) (Ne.symm (Nat.ne_of_lt (Nat.lt_trans lJ o3)))
  have lj3 := ((lj.cons (e := (D, LCg.lst ys))).cons (e := (Cc, oC))).cons (e := (I, oI))
  have wo3 := ((wo.cons (e := (D, LCg.lst ys))).cons (e := (Cc, oC))).cons (e := (I, oI))
  refine turnEndO F9 N9 mI mC mD ⟨(wo3.jack N8 lj3.jk lj.lJ hk9).off fun p hp q => less3_of N9 mI mC mD kI rfl hoC zI (by simp) ord.1 ord.2.1 ord.2.2 hp q,
    ⟨q, (lj3.lift N8 hj9 hk9).kept fun p hp h => mem_less3.mpr ⟨hp, Nat.ne_of_lt (Nat.lt_trans h o1), Nat.ne_of_lt (Nat.lt_trans h o2), Nat.ne_of_lt (Nat.lt_trans h o3)⟩, by omega⟩, by simp [hl], fun j y hj => ?_⟩
  rcases Nat.lt_or_ge j ys.length with z | z
  · rw [List.getElem?_append_left z] at hj
    exact hy j y hj
  · rw [List.getElem?_append_right z] at hj
    cases k : j - ys.length with
    | zero => rw [k] at hj; exact ⟨v, t, (Option.some.inj hj).symm, hv0, hv1⟩
    | succ n => rw [k] at hj; simp at hj
theorem nums3 {ys : List Value} (hl : ys.length = 3) (hy : ∀ (j : Nat) y, ys[j]? = some y → ∃ v t, y = .int v t ∧ 0 ≤ v ∧ v < 2 ^ wd.toNat) : ∃ x y z tx ty tz, ys = [.int x tx, .int y ty, .int z tz] ∧ 0 ≤ x ∧ x < 2 ^ wd.toNat ∧ 0 ≤ y ∧ y < 2 ^ wd.toNat ∧ 0 ≤ z ∧ z < 2 ^ wd.toNat := by
  match ys, hl with
  | [a, b, c], _ =>
    obtain ⟨x, tx, rfl, x0, x1⟩ := hy 0 a rfl
    obtain ⟨y, ty, rfl, y0, y1⟩ := hy 1 b rfl
    obtain ⟨z, tz, rfl, z0, z1⟩ := hy 2 c rfl
    exact ⟨x, y, z, tx, ty, tz, rfl, x0, x1, y0, y1, z0, z1⟩
end
theorem NJ.zero {w : World} {b : BA} {ts : List Term} {ws : List Int} {c : Nat} {W : Addr} {wd ta tb so p0 : Int} {x1 x2 x3 : Nat} {v1 v2 v3 : Option Value} {J C : Addr} {arr : Array Value} {T : Led} (wo : WO w b ts ws c W wd ta tb so T) (lj : LJ b.M.D T x1 x2 x3 v1 v2 v3 J C arr p0) : NJ w b ts ws c W wd ta tb so x1 x2 x3 v1 v2 v3 J C arr p0 0 [] T :=
  ⟨wo, ⟨p0, lj, by omega⟩, rfl, fun j y h => by simp at h⟩

def At0 (ts : List Term) (t : Int) (op : Str) (d : Sum Int (Int × Int)) : Prop := 0 ≤ t ∧ ts[t.toNat]? = some (op, 0, d)
theorem At0.mono {ts ts' : List Term} {t : Int} {op : Str} {d : Sum Int (Int × Int)} (hs : ts <+: ts') (h : At0 ts t op d) : At0 ts' t op d := ⟨h.1, get_prefix hs h.2⟩
inductive MadeO (w : World) (b : BA) (ts : List Term) (ws : List Int) (c : Nat) (W : Addr) (wd ta tb so : Int) (news : Led) (P : Int → Str → Prop) (d : Sum Int (Int × Int)) (r : Value) (news' : Led) : Prop
  | mk (t : Int) (tk : Tok) (ts' : List Term) (c' : Nat) (op : Str) (hr : r = .int t tk) (hw : WO w b ts' ws c' W wd ta tb so news') (hc : c' ≤ c + 1) (hs : ts <+: ts') (ha : At0 ts' t op d) (hp : P t op) (hk : Kept b news news') : MadeO w b ts ws c W wd ta tb so news P d r news'
theorem Made.o {w : World} {b : BA} {ts : List Term} {ws : List Int} {c : Nat} {W : Addr} {wd ta tb so : Int} {news news' : Led} {op : Str} {d : Sum Int (Int × Int)} {P : Int → Str → Prop} {r : Value} (hw : WO w b ts ws c W wd ta tb so news) (h : Made w b ts ws (c + 1) news (op, 0, d) r news')
   (hP : ∀ (t : Nat) (ts' : List Term), ts'[t]? = some (op, 0, d) → ts'[1]? = some (Str.ofString "true", 0, .inl 0) → ts'[2]? = some (Str.ofString "false", 0, .inl 0) → P (t : Int) op) : MadeO w b ts ws c W wd ta tb so news P d r news' :=
  let ⟨t, tk, ts', hr, _, hb, hs, hx, hk⟩ := h
  ⟨(t : Int), tk, ts', c + 1, op, hr, hw.next hb hs (List.prefix_refl _) hk, Nat.le_refl _, hs, ⟨Int.natCast_nonneg _, hx⟩, hP t ts' hx hb.tt hb.tf, hk⟩
def EqP (t : Int) (op : Str) : Prop := (op = Str.ofString "=" ∧ t ≠ 1 ∧ t ≠ 2) ∨ (op = Str.ofString "true" ∧ t = 1)
section
variable (w : World) {b : BA} {ts : List Term} {ws : List Int} {c : Nat} {W : Addr} {wd ta tb so : Int} {news : Led} {t1 t2 t3 tk : Tok} {t k : Int} {op : Str} {d : Sum Int (Int × Int)}
theorem ne_lit {ts : List Term} {i j : Nat} {x y : Term} (h1 : ts[i]? = some x) (h2 : ts[j]? = some y) (hn : x.1 ≠ y.1) : (i : Int) ≠ (j : Int) := fun e => by
  obtain rfl : i = j := Int.ofNat.inj e
  rw [h1] at h2
  exact hn (congrArg (·.1) (Option.some.inj h2))
theorem spec_eqO (hw : WO w b ts ws c W wd ta tb so news) (hc : c < 1000000) : Spec w 480 4 news [.ref b.M.B, .int ta t1, .int tb t2] (MadeO w b ts ws c W wd ta tb so news EqP (.inl 0)) := by
  obtain ⟨oa, da, xa⟩ := hw.xa
  obtain ⟨ob, db, xb⟩ := hw.xb
  by_cases hab : ta = tb
  · subst hab
    refine (spec_eq_same w hw.fb hw.a0 xa).mono ?_
    rintro r news' ⟨rfl, tk, rfl⟩
    exact ⟨1, tk, ts, c, _, rfl, hw, Nat.le_succ _, List.prefix_refl _, ⟨by decide, hw.fb.tt⟩, .inr ⟨rfl, rfl⟩, Kept.refl⟩
  · refine (spec_eq w hw.fb hc hw.a0 xa hw.b0 xb rfl hab).mono fun r n q => Made.o hw q ?_
    intro t ts' hx h1 h2
    exact .inl ⟨rfl, ne_lit hx h1 (by decide), ne_lit hx h2 (by decide)⟩
theorem spec_askO (hw : WO w b ts ws c W wd ta tb so news) (hc : c < 1000000) (hop : op = Str.ofString "bvult" ∨ op = Str.ofString "bvsle") : Spec w 681 4 news [.ref b.M.B, .str op t3, .int ta t1, .int tb t2] (MadeO w b ts ws c W wd ta tb so news (fun _ o => o = op) (.inl 0)) := by
  obtain ⟨oa, da, xa⟩ := hw.xa
  obtain ⟨ob, db, xb⟩ := hw.xb
  exact (spec_bv_ask w hw.fb hc hw.a0 xa hw.s0 hw.hw (hw.w1) hw.b0 xb rfl hop).mono fun r n q => Made.o hw q fun _ _ _ _ _ => rfl
theorem spec_bitO (hw : WO w b ts ws c W wd ta tb so news) (hc : c + 2 ≤ 1000000) (h0 : 0 ≤ k) (h1 : k < wd) : Spec w 723 4 news [.ref b.M.B, .int k t1, .int ta t2] (MadeO w b ts ws c W wd ta tb so news (fun _ o => o = Str.ofString "bit") (.inl k)) := by
  obtain ⟨oa, da, xa⟩ := hw.xa
  exact (spec_bit w hw.fb hc hw.a0 xa hw.s0 hw.hw (hw.w1) h0 h1).mono fun r n q => Made.o hw q fun _ _ _ _ _ => rfl
theorem spec_notO (hw : WO w b ts ws c W wd ta tb so news) (hc : c < 1000000) (hx : At0 ts t op d) (hp : EqP t op) : Spec w 438 4 news [.ref b.M.B, .int t tk] (MadeO w b ts ws c W wd ta tb so news (fun _ o => o = Str.ofString "not" ∨ o = Str.ofString "false") (.inl 0)) := by
  rcases hp with ⟨rfl, h1, h2⟩ | ⟨rfl, rfl⟩
  · exact (spec_not_of w hw.fb hc hx.1 hx.2 h1 h2).mono fun r n q => Made.o hw q fun _ _ _ _ _ => .inl rfl
  · refine (spec_not_true w hw.fb).mono ?_
    rintro r news' ⟨rfl, tk, rfl⟩
    exact ⟨2, tk, ts, c, _, rfl, hw, Nat.le_succ _, List.prefix_refl _, ⟨by decide, hw.fb.tf⟩, .inr rfl, Kept.refl⟩
theorem SpecZ.mono {w : World} {f : Addr} {sz : Nat} {news : Led} {vs : List Value} {R R' : Value → Led → Prop} (S : SpecZ w f sz news vs R) (h : ∀ r n, R r n → R' r n) : SpecZ w f sz news vs R' :=
  fun mean mg mb dp un gd cn cs a ccd cl A₀ h₀ L m s Q E B F X N T hk hd hu hret => S mean mg mb dp un gd cn cs a ccd cl A₀ h₀ L m s Q E B F X N T hk hd hu fun r n h' tk' F' N' r' => hret r n h' tk' F' N' (h r n r')
def RefO (w : World) (b : BA) (ts : List Term) (ws : List Int) (c : Nat) (W : Addr) (wd ta tb so : Int) (news : Led) (r : Value) (news' : Led) : Prop := r = .bool true ∧ WO w b ts ws c W wd ta tb so news' ∧ ∀ p ∈ news, p ∈ news'
theorem spec_ref2O (hw : WO w b ts ws c W wd ta tb so news) (hx : At0 ts t op d) (hop : op = Str.ofString "=" ∨ op = Str.ofString "true" ∨ op = Str.ofString "bvult" ∨ op = Str.ofString "bvsle") : SpecZ w 775 20 news [.ref b.M.B, .int t t1, .int 2 t2] (RefO w b ts ws c W wd ta tb so news) :=
  (spec_refused2 w hw.fb hx.1 hx.2 (by decide) hw.fb.w0 (by rcases hop with rfl | rfl | rfl | rfl <;> decide) (by rcases hop with rfl | rfl | rfl | rfl <;> decide) (by rcases hop with rfl | rfl | rfl | rfl <;> decide)).mono fun r n q => ⟨q.1, hw.off fun p hp _ => q.2 p hp, q.2⟩
theorem spec_ref1O (hw : WO w b ts ws c W wd ta tb so news) (hx : At0 ts t op d) (hop : op = Str.ofString "bit" ∨ op = Str.ofString "not" ∨ op = Str.ofString "false") : SpecZ w 775 20 news [.ref b.M.B, .int t t1, .int 1 t2] (RefO w b ts ws c W wd ta tb so news) :=
  (spec_refused1 w hw.fb hx.1 hx.2 (by decide) hw.fb.w0 (by rcases hop with rfl | rfl | rfl <;> decide) (by rcases hop with rfl | rfl | rfl <;> decide) (by rcases hop with rfl | rfl | rfl <;> decide) (by rcases hop with rfl | rfl | rfl <;> decide) (by rcases hop with rfl | rfl | rfl <;> decide) (by rcases hop with rfl | rfl | rfl <;> decide)).mono fun r n q => ⟨q.1, hw.off fun p hp _ => q.2 p hp, q.2⟩
end
theorem use_specZ {w : World} {f : Addr} {sz : Nat} {news : Led} {vs : List Value} {R : Value → Led → Prop} {mean : ExcName → Option Value} {mg mb : Str → Option Value} {dp un : Nat} {gd : Option (List Code)} {cn : Str} {cs : Scope} {a : Addr} {ccd : Value} {cl : List (Str × Addr)} {A₀ : Around} {h₀ : Heap} {L : Addr} {m : Str → Option Value} {s : Shared}
    {Q E : Value → Shared → Prop} (S : SpecZ w f sz news vs R) (B : Below A₀ h₀ [] h₀) (F : Fr h₀ L s.heap m) (X : (kF w.params).In h₀) (N : News h₀ L s.heap news)
    (T : Top pV (looseW pV looseE) mean mg mb h₀) (hk : cs.kind = .function) (hd : dp + sz < recursionLimit) (hu : un + 8 * sz < cLine)
    (h : ∀ r news' h' tk', Fr h₀ L h' m → News h₀ L h' news' → R r news' → Q r { s with heap := h', toks := tk' }) :
    wpAny (model PP w) (ktrTop dp un gd cn cs L a ccd cl []) (call (.ref f) vs) Q E s := S mean mg mb dp un gd cn cs a ccd cl A₀ h₀ L m s Q E B F X N T hk hd hu h

theorem newsSame {h₀ h : Heap} {L : Addr} {T T' : Led} (N : News h₀ L h T') (hk : ∀ p ∈ T, p ∈ T') : News h₀ L h T := fun p hp => N p (hk p hp)
section
variable {w : World} {S : Scope} {z : Nat} {c : Fx w S z} {env : Env} {l : FL} {I I1 I2 : Led → Prop} {J J1 J2 : Value → Led → Prop}
abbrev Sg (c : Fx w S z) (I : Led → Prop) (l : FL) (ss : List Stmt) : Prop := Sr c I l ss fun u _ => u = .bool true
theorem ei_cell {x : Str} {p : Pos} {V : Value → Prop} (h : ∀ nw, I nw → ∃ a o v, c.cl.lookup x = some a ∧ (a, o) ∈ nw ∧ o.data = .cell (some v) ∧ V v) (hx : c.env.kindOf x = some .cell) (hd : (x == ("__debug__" : Str)) = false) : Ei c c.env l I (.Name x p) V I := by
  with_unfolding_all
    exact fun m s news Q E fo F N i ret =>
      let ⟨_, _, v, h1, h2, h3, h4⟩ := h news i
      nameX_C N h1 h2 h3 (ret v news s.heap s.toks F N ⟨h4, i⟩) c.hk hx hd
theorem eg_callZ {fn : Str} {p1 p2 : Pos} {f : Addr} {sz : Nat} {e : PySem.Expr} {es : List PySem.Expr} {JA : List Value → Led → Prop} (hB : ∃ A₀, Below A₀ c.g [] c.g) (ho : c.outer = []) (hfe : Ei c env l I (.Name fn p1) (isR f) I)
    (hp : keepIn (kF w.params) (.ref f) = true) (hz : Nat.ble sz z = true) (hs0 : (e :: es).all unstarred = true) (ha : EgL c env l I (e :: es) JA)
    (hs : ∀ vs nw h, News c.g c.L h nw → JA vs nw → SpecZ w f sz nw vs J) : Eg c env l I (.Call (.Name fn p1) (e :: es) [] p2) J := by
  with_unfolding_all
    exact fun m s news Q E fo F N i ret => Call_ (hfe m s news _ E fo F N i fun u n0 h0 tk0 F0 N0 j0 => by
        obtain rfl : u = .ref f := j0.1
        obtain ⟨A₀, hB⟩ := hB
        exact callWith_K c.X hp (ha _ m _ n0 _ E fo F0 N0 j0.2 fun vs news' h' tk' F' N' hV =>
          ⟨c.X.keeps F'.keep, by
            have x := use_specZ (mean := c.mean) (mg := c.mg) (mb := c.mb) (dp := c.dp) (un := c.un) (gd := c.gd) (cn := c.cn) (cs := S) (a := c.a) (ccd := c.ccd) (cl := c.cl) (s := { s with heap := h', toks := tk' }) (E := E) (hs vs news' h' N' hV) hB F' c.X N' c.T c.hk (Nat.lt_of_le_of_lt (Nat.add_le_add_left (Nat.le_of_ble_eq_true hz) _) c.room) (Nat.lt_of_le_of_lt (Nat.add_le_add_left (Nat.mul_le_mul_left 8 (Nat.le_of_ble_eq_true hz)) _) c.units) fun r news'' h'' tk'' F'' N'' R => ret r news'' h'' tk'' F'' N'' R
            rw [← ho] at x
            exact x⟩) (star_of (Bool.and_eq_true_iff.mp hs0).1 es) (plain_of (Bool.and_eq_true_iff.mp hs0).2))
theorem sg_setC {x : Str} {p1 p2 : Pos} {e : PySem.Expr} {ss : List Stmt} {R : Value → Led → Prop} (hn : swapsWith e (some (.Name x p1)) p2.line c.env = pure false) (hx : c.env.kindOf x = some .cell) (h : Eg c c.env l I e J)
    (hst : ∀ u nw h, News c.g c.L h nw → J u nw → ∃ a o v0, c.cl.lookup x = some a ∧ (a, o) ∈ nw ∧ o.data = .cell v0 ∧ ∀ o', o'.data = .cell (some u) → J1 u ((a, o') :: less a nw)) (hs : ∀ u, Sr c (J1 u) l ss R) :
    Sr c I l (.Assign [.Name x p1] e p2 :: ss) R := by
  with_unfolding_all
    exact fun m s news Q fo F N i ret =>
      wpAny_execs_cons (wpAny_Assign_Name (h m s news _ _ fo F N i fun u news' h' tk' F' N' j =>
        let ⟨_, _, _, h1, h2, h3, h4⟩ := hst u news' h' N' j
        storeC_op F' N' h1 h2 h3 (fun h2 o' F2 N2 d2 => hs u m _ _ Q fo F2 N2 (h4 o' d2) ret) c.hk hx) hn)
theorem et_not {f : PySem.Expr} {es : List PySem.Expr} {p p2 : Pos} (h : Ei c env l I (.Call f es [] p2) (isB true) I1) : Et c env l I (.UnaryOp .Not (.Call f es [] p2) p) false I1 := ti_not (ti_val h)
theorem et_or2 {a b : PySem.Expr} {p : Pos} (h : Et c env l I a false I1) (hb : Et c env l I1 b false I2) : Et c env l I (.BoolOp .Or [a, b] p) false I2 := ti_or h (ti_or hb ti_or_nil)
end

noncomputable abbrev S517 : Scope := scopeOf (pickS 47)
structure LQ where
  b : BA
  W : Addr
  wd : Int
  ta : Int
  tb : Int
  so : Int
  J : Addr
  C : Addr
  arr : Array Value
inductive JJ {w : World} (c : Fx w S517 40) (q : LQ) (v3 : Option Value) (M : Int) (nw : Led) : Prop
  | mk (pl : Int) (lj : LJ q.b.M.D nw (c.L + 1) (c.L + 1 + 1) (c.L + 1 + 1 + 1) (some (.ref q.J)) (some (.ref q.b.M.B)) v3 q.J q.C q.arr pl) (hp : pl ≤ M) : JJ c q v3 M nw
inductive LW {w : World} (c : Fx w S517 40) (q : LQ) (v3 : Option Value) (G : List Term → Prop) (M : Nat) (nw : Led) : Prop
  | mk (ts : List Term) (ws : List Int) (k : Nat) (hw : WO w q.b ts ws k q.W q.wd q.ta q.tb q.so nw) (hk : k ≤ M) (g : G ts) (jj : JJ c q v3 95 nw) : LW c q v3 G M nw
structure Lf {w : World} (c : Fx w S517 40) : Prop where
  cl : c.cl = cellsFrom (c.L + 1) S517.names []
  hB : ∃ A₀, Below A₀ c.g [] c.g
  ho : c.outer = []
def Asked (G : List Term → Prop) (t : Int) (op : Str) (d : Sum Int (Int × Int)) : List Term → Prop := fun ts => G ts ∧ At0 ts t op d
inductive MT {w : World} (c : Fx w S517 40) (q : LQ) (v3 : Option Value) (G : List Term → Prop) (M : Nat) (P : Int → Str → Prop) (d : Sum Int (Int × Int)) (X : Led → Prop) (u : Value) (nw : Led) : Prop
  | mk (t : Int) (op : Str) (hu : isI t u) (hp : P t op) (lw : LW c q v3 (Asked G t op d) M nw) (hx : X nw) : MT c q v3 G M P d X u nw
section
variable {w : World} {c : Fx w S517 40} {q : LQ} {v3 : Option Value} {G : List Term → Prop} {M : Nat} {l : FL} {nw nw' : Led} {scope : Scope} {cl : List (Str × Addr)} {D oC : Nat} {I : Led → Prop} {p p0 p1 p2 : Pos}
theorem JJ.kept {M : Int} (h : JJ c q v3 M nw) (hk : Kept q.b nw nw') : JJ c q v3 M nw' := let ⟨pl, lj, r⟩ := h; ⟨pl, lj.keptB hk, r⟩
theorem JJ.cons {M : Int} {e : Addr × Obj} (h : JJ c q v3 M nw) : JJ c q v3 M (e :: nw) := let ⟨pl, lj, r⟩ := h; ⟨pl, lj.cons, r⟩
theorem JJ.le {M M' : Int} (h : JJ c q v3 M nw) (hq : M ≤ M') : JJ c q v3 M' nw := let ⟨pl, lj, r⟩ := h; ⟨pl, lj, Int.le_trans r hq⟩
theorem LW.jj (h : LW c q v3 G M nw) : ∃ M, JJ c q v3 M nw := let ⟨_, _, _, _, _, _, jj⟩ := h; ⟨_, jj⟩
theorem LW.cons {e : Addr × Obj} (h : LW c q v3 G M nw) : LW c q v3 G M (e :: nw) := let ⟨ts, ws, k, hw, hk, g, jj⟩ := h; ⟨ts, ws, k, hw.cons, hk, g, jj.cons⟩
theorem LW.dict (h : LW c q v3 G M nw) : WDict w q.b q.W q.wd q.ta q.tb nw := let ⟨_, _, _, hw, _, _, _⟩ := h; hw.dict
theorem LW.field {nm : Str} (h : LW c q v3 G M nw) (hl : ∀ es, AF q.b es → getL nm es = some none) : FieldAt q.b.M.B q.b.M.D nm none nw := let ⟨_, _, _, hw, _, _, _⟩ := h; hw.fb.field hl
theorem cl_jack (f : Lf c) : c.cl.lookup (Str.ofString "jack") = some (c.L + 1) := by rw [f.cl]; rfl
theorem cl_bank (f : Lf c) : c.cl.lookup (Str.ofString "bank") = some (c.L + 1 + 1) := by rw [f.cl]; rfl
theorem cl_width (f : Lf c) : c.cl.lookup (Str.ofString "width") = some (c.L + 1 + 1 + 1) := by rw [f.cl]; rfl
theorem ei_bank (f : Lf c) (hI : ∀ nw, I nw → ∃ M, JJ c q v3 M nw) : Ei c c.env l I (.Name (Str.ofString "bank") p) (isR q.b.M.B) I :=
  ei_cell (fun nw i => let ⟨_, _, lj, _⟩ := hI nw i; let ⟨o, h1, h2⟩ := lj.c2; ⟨_, o, _, cl_bank f, h1, h2, rfl⟩) (by kernel_rfl) (by decide)
theorem eg_mkT (ps : List Pt) {nm : Str} {fa : Addr} {e : PySem.Expr} {es : List PySem.Expr} {P : Int → Str → Prop} {d : Sum Int (Int × Int)} {X : Led → Prop} (f : Lf c) (Mt : BM w nm fa) (hl : ∀ es, AF q.b es → getL nm es = some none) (hu : (e :: es).all unstarred = true) (ha : EiL c c.env l (fun nw => LW c q v3 G M nw ∧ X nw) (e :: es) (ps.map Pt.ok) fun nw => LW c q v3 G M nw ∧ X nw)
    (hs : ∀ ts ws k nw, WO w q.b ts ws k q.W q.wd q.ta q.tb q.so nw → k ≤ M → G ts → PtE ps fun vs => Spec w fa 4 nw (.ref q.b.M.B :: vs) (MadeO w q.b ts ws k q.W q.wd q.ta q.tb q.so nw P d)) (hG : ∀ ts ts', ts <+: ts' → G ts → G ts') (hX : ∀ nw nw', Kept q.b nw nw' → X nw → X nw') (he : Meth0 (.Name (Str.ofString "bank") p0) nm p1 p2 (e :: es) c.env) :
    Eg c c.env l (fun nw => LW c q v3 G M nw ∧ X nw) (.Call (.Attribute (.Name (Str.ofString "bank") p0) nm p1) (e :: es) [] p2) (MT c q v3 G (M + 1) P d X) :=
  eg_meth (sz := 4) Mt (ei_bank f fun nw i => i.1.jj) (fun nw i => i.1.field hl) rfl hu ha (fun vs nw _ _ j => by
    obtain ⟨hA, ⟨ts, ws, k, hw, hk, g, jj⟩, hx⟩ := j
    exact (pt_elim (hs ts ws k nw hw hk g) hA).mono fun r n ⟨t, tk, ts', c', op, hr, hw', hc, hs, ha, hp, hkk⟩ => ⟨t, op, ⟨tk, hr⟩, hp, ⟨ts', ws, c', hw', Nat.le_trans hc (Nat.succ_le_succ hk), ⟨hG _ _ hs g, ha⟩, jj.kept hkk⟩, hX _ _ hkk hx⟩) he
section
variable {env : Env} {C0 : Addr} {o0 : Obj} {m₂ : Str → Option Value} {v : Value} {nm : Str} {V : Value → Prop}
theorem ei_own (hI : ∀ nw, I nw → (C0, o0) ∈ nw) (hN : LCg.NsObj o0 m₂) (hm : m₂ nm = some v) (hV : V v) (hk : (compEnvC scope cl C0 env).scope.kind = .function) (hl : (compEnvC scope cl C0 env).kindOf nm = some .local) (hd : (nm == ("__debug__" : Str)) = false) : Ei c (compEnvC scope cl C0 env) l I (.Name nm p) V I := by
  with_unfolding_all
    exact fun m s news Q E fo F N i ret =>
      LCgL.ld_own N (hI _ i) hN hm (ret v news s.heap s.toks F N ⟨hV, i⟩) hk hl hd
theorem ei_free {a : Addr} (hI : ∀ nw, I nw → ∃ o v, (a, o) ∈ nw ∧ o.data = .cell (some v) ∧ V v) (ha : cl.lookup nm = some a) (hk : (compEnvC scope cl C0 env).scope.kind = .function) (hl : (compEnvC scope cl C0 env).kindOf nm = some .cell) (hd : (nm == ("__debug__" : Str)) = false) : Ei c (compEnvC scope cl C0 env) l I (.Name nm p) V I := by
  with_unfolding_all
    exact fun m s news Q E fo F N i ret =>
      let ⟨_, v, h2, h3, h4⟩ := hI _ i
      lcf_cell N ha h2 h3 (ret v news s.heap s.toks F N ⟨h4, i⟩) hk hl hd
theorem ei_globC {f : Addr} (hg : env.globals = mainGlobals) (hk : (compEnvC scope cl C0 env).scope.kind = .function) (hx : (compEnvC scope cl C0 env).kindOf nm = some .globalImplicit) (hd : (nm == ("__debug__" : Str)) = false) (hf : nsIn (kF w.params) mainGlobals nm = some (some (.ref f))) : Ei c (compEnvC scope cl C0 env) l I (.Name nm p) (isR f) I := by
  with_unfolding_all
    exact fun m s news Q E fo F N i ret =>
      LCgL.ld_global F c.X c.T hf (ret _ news s.heap s.toks F N ⟨rfl, i⟩) hg hk hx hd
end
theorem gl_ref : nsIn (kF w.params) mainGlobals "_law_is_refused" = some (some (.ref 775)) := by kernel_rfl
theorem kp_ref : keepIn (kF w.params) (.ref 775) = true := by kernel_rfl
def Ask3 (q1 q2 q3 : Int) (o1 o2 o3 : Str) : List Term → Prop := fun ts => At0 ts q1 o1 (.inl 0) ∧ At0 ts q2 o2 (.inl 0) ∧ At0 ts q3 o3 (.inl 0)
theorem Ask3.mono {q1 q2 q3 : Int} {o1 o2 o3 : Str} (ts ts' : List Term) (h : ts <+: ts') (g : Ask3 q1 q2 q3 o1 o2 o3 ts) : Ask3 q1 q2 q3 o1 o2 o3 ts' := ⟨g.1.mono h, g.2.1.mono h, g.2.2.mono h⟩
def Op4 (op : Str) : Prop := op = Str.ofString "=" ∨ op = Str.ofString "true" ∨ op = Str.ofString "bvult" ∨ op = Str.ofString "bvsle"
theorem Ask3.at {q1 q2 q3 k : Int} {o1 o2 o3 : Str} {ts : List Term} (h : Ask3 q1 q2 q3 o1 o2 o3 ts) (h1 : Op4 o1) (h2 : Op4 o2) (h3 : Op4 o3) (hk : k ∈ [q1, q2, q3]) : ∃ op, At0 ts k op (.inl 0) ∧ Op4 op := by
  cases hk with
  | head => exact ⟨_, h.1, h1⟩
  | tail _ hk =>
    cases hk with
    | head => exact ⟨_, h.2.1, h2⟩
    | tail _ hk =>
      cases hk with
      | head => exact ⟨_, h.2.2, h3⟩
      | tail _ hk => cases hk
abbrev AskL (c : Fx w S517 40) (q : LQ) (v3 : Option Value) (M : Nat) (q1 q2 q3 : Int) (o1 o2 o3 : Str) (t1 t2 t3 : Tok) (D : Addr) (nw : Led) : Prop := LW c q v3 (Ask3 q1 q2 q3 o1 o2 o3) M nw ∧ (D, listOf #[.int q1 t1, .int q2 t2, .int q3 t3] 0) ∈ nw
theorem et_asked (f : Lf c) {q1 q2 q3 : Int} {o1 o2 o3 : Str} {t1 t2 t3 k9 : Tok} {D : Addr} {pA pB pC pD pE pF pG pH pI pJ pK pL : Pos} (h1 : Op4 o1) (h2 : Op4 o2) (h3 : Op4 o3) (hl : l.lookup (Str.ofString "asked") = some (isR D))
    (hkd : scope.kind = .function) (hclos : closureFor scope c.env = pure cl) (hcell : ∀ y ∈ scope.names, y.2 ≠ .cell) (hnames : ∀ y ∈ scope.names, y.2 = .local → scope.names.lookup y.1 = some .local) (hx : scope.names.lookup (Str.ofString "t") = some .local)
    (hb : cl.lookup (Str.ofString "bank") = some (c.L + 1 + 1)) (kb : ∀ C, (compEnvC scope cl C c.env).kindOf (Str.ofString "bank") = some .cell) (kt : ∀ C, (compEnvC scope cl C c.env).kindOf (Str.ofString "t") = some .local) (kr : ∀ C, (compEnvC scope cl C c.env).kindOf (Str.ofString "_law_is_refused") = some .globalImplicit) :
    Et c c.env l (AskL c q v3 M q1 q2 q3 o1 o2 o3 t1 t2 t3 D)
      (.Compare (.ListComp (.Name (Str.ofString "t") pA) [⟨.Name (Str.ofString "t") pB, .Name (Str.ofString "asked") pC, [.UnaryOp .Not (.Call (.Name (Str.ofString "_law_is_refused") pD) [.Name (Str.ofString "bank") pE, .Name (Str.ofString "t") pF, .Constant (.int 2) k9 pG] [] pH) pI], 0⟩] scope pJ) [.NotEq] [.List [] pK] pL) false
      (AskL c q v3 M q1 q2 q3 o1 o2 o3 t1 t2 t3 D) := by
  with_unfolding_all
    exact fun m s news Q E fo F N i ret => by
      refine wpAny_isTrue_Compare1 ?_ (marks_of rfl)
      refine LCt.ListComp_T F hclos hcell hkd hnames hx (ei_name (I := At news) (V := isR D) hl (by kernel_rfl) (by decide) m s news _ E fo F N rfl fun u nw h tk F1 N1 j => ?_) (fun _ => rfl)
      obtain ⟨hu, e⟩ := j
      subst e
      obtain ⟨hw, hm⟩ := i
      obtain rfl : u = .ref D := hu
      refine LCt.CompSrcT.ledger rfl F1 N1 hm (by show 3 ≤ sizeLine; decide) fun g => ?_
      refine kci_list (vs := [.int q1 t1, .int q2 t2, .int q3 t3]) (ns := [q1, q2, q3]) (fun l _ => l) (.cons _ _ (.cons _ _ (.cons _ _ .nil))) ?turn ?fin (fun l k => Nat.le_succ _)
      case turn =>
        intro k t I oI C2 oC D2 m₂ ys l2 g2 tk2 E' hk hI hC hx F2 N2 off ne _
        refine isTrue_not (isTrue_plain (eg_callZ (I := At ((I, oI) :: (C2, oC) :: (D2, LCg.lst ys) :: nw)) (J := fun u nw9 => u = .bool true ∧ ∀ p ∈ (I, oI) :: (C2, oC) :: (D2, LCg.lst ys) :: nw, p ∈ nw9) f.hB f.ho (ei_globC rfl hkd (kr C2) (by decide) gl_ref) kp_ref (sz := 20) rfl rfl
          (eil_cons rfl (ei_free (V := isR q.b.M.B) (fun nw9 e => by
            obtain ⟨_, _, lj, _⟩ := hw.jj
            obtain ⟨o, a1, a2⟩ := lj.c2
            exact ⟨o, _, by rw [show nw9 = _ from e]; exact .tail _ (.tail _ (.tail _ a1)), a2, rfl⟩) hb hkd (kb C2) (by decide)) (eil_cons rfl (ei_own (V := isI k) (fun nw9 e => by rw [show nw9 = _ from e]; exact .tail _ (.head _)) hC hx ⟨_, rfl⟩ hkd (kt C2) (by decide)) (eil_cons rfl ei_int eil_nil)))
          (fun vs nw9 h9 N9 hV => ?_) m _ _ _ _ fok_nil F2 N2 rfl fun u nw9 h9 tk9 F9 N9 j9 => ?_))
        · refine pt_elim (ps := [.R q.b.M.B, .I k, .I 2]) (P := fun vs => SpecZ w 775 20 nw9 vs _) (fun tk3 tk4 => ?_) hV.1
          obtain ⟨ts, ws, kk, hwo, _, ga, _⟩ := hw
          obtain ⟨op, a1, a2⟩ := ga.at h1 h2 h3 hk
          rw [show nw9 = _ from hV.2]
          exact (spec_ref2O w hwo.cons.cons.cons a1 a2).mono fun r n q => ⟨q.1, q.2.2⟩
        · obtain ⟨hu, hk9⟩ := j9
          subst hu
          exact wpAny_truthy_bool ⟨h9, tk9, nw, rfl, F9, newsSame N9 hk9, off, .inr ⟨_, hm, rfl, _, rfl⟩, rfl, rfl⟩
      case fin =>
        intro ys hy _ D2 g2 tk2 F2 N2 of2
        have hy : IntsAre ys [] := hy
        cases hy
        refine List_ (args_nil (newList_N F2 N2 (fun h3 F3 N3 => ?_) (by show 0 ≤ sizeLine; decide)))
        refine ne_intsK (vs := []) (us := []) (ns := []) (ms := []) ⟨_, N3.get (.tail _ (.head _)), rfl, _, rfl⟩ .nil ⟨_, N3.get (.head _), rfl, _, rfl⟩ .nil (by have := c.units; show c.un + 64 < cLine; omega) ?_
        exact wpAny_truthy_bool (ret _ _ _ F3 N3 ⟨hw.cons.cons, .tail _ (.tail _ hm)⟩)
end

section
variable {w : World} {S : Scope} {z : Nat} {c : Fx w S z} {l : FL} {I I1 I2 : Led → Prop}
theorem sg_ret2 {a b : PySem.Expr} {p p2 : Pos} {ss : List Stmt} (ha : Ei c c.env l I a (isB true) I1) (hb : Ei c c.env l I1 b (isB true) I2) : Sg c I l (.Return (some (.BoolOp .And [a, b] p)) p2 :: ss) := by
  with_unfolding_all
    exact fun m s news Q fo F N i ret =>
      wpAny_execs_cons (wpAny_Return_some (BoolOp_and (ha m s news _ _ fo F N i fun u nw h' tk' F' N' j => by
        obtain ⟨hu, j⟩ := j
        subst hu
        exact wpAny_truthy_bool (BoolOp_one (hb m _ nw _ _ fo F' N' j fun u2 nw2 h2 tk2 F2 N2 j2 => ret _ nw2 h2 m tk2 F2 N2 ⟨_, rfl, j2.1⟩)))))
end
section
variable {w : World} {c : Fx w S517 40} {q : LQ} {x y z k more : Int} {v3 : Option Value} {G : List Term → Prop} {M : Nat} {l : FL} {nw nw' : Led} {D : Addr} {o : Obj} {d : Sum Int (Int × Int)} {I X : Led → Prop} {P : Int → Str → Prop}
def Op3 (op : Str) : Prop := op = Str.ofString "bit" ∨ op = Str.ofString "not" ∨ op = Str.ofString "false"
inductive RA (c : Fx w S517 40) (q : LQ) (v3 : Option Value) (G : List Term → Prop) (M : Nat) (P : Int → Str → Prop) (d : Sum Int (Int × Int)) (X : Led → Prop) (vs : List Value) (nw : Led) : Prop
  | mk (u : Value) (t : Tok) (hv : vs = [.ref q.b.M.B, u, .int 1 t]) (h : MT c q v3 G M P d X u nw) : RA c q v3 G M P d X vs nw
theorem ei_ref1 (f : Lf c) {e : PySem.Expr} {k1 : Tok} {p1 p2 p3 p4 : Pos} (hu : unstarred e = true) (hP : ∀ t o, P t o → Op3 o) (hI : ∀ nw, I nw → ∃ M, JJ c q v3 M nw) (he : Eg c c.env l I e (MT c q v3 G M P d fun nw => (D, o) ∈ nw)) :
    Ei c c.env l I (.Call (.Name (Str.ofString "_law_is_refused") p1) [.Name (Str.ofString "bank") p2, e, .Constant (.int 1) k1 p3] [] p4) (isB true) (fun nw => LW c q v3 G M nw ∧ (D, o) ∈ nw) :=
  eg_callZ (sz := 20) (JA := RA c q v3 G M P d fun nw => (D, o) ∈ nw) f.hB f.ho (ei_glob (by kernel_rfl) (by decide) gl_ref) kp_ref rfl (Bool.and_eq_true_iff.mpr ⟨rfl, Bool.and_eq_true_iff.mpr ⟨hu, rfl⟩⟩)
    (egl_cons rfl (ei_bank f hI) fun u1 => egl_and fun e1 => egl_cons hu he fun u2 => egl_cons rfl ei_int fun u3 => egl_nil fun nw j => by
      obtain ⟨⟨t, e3⟩, h⟩ := j
      obtain rfl : u1 = .ref q.b.M.B := e1
      subst e3
      exact ⟨u2, t, rfl, h⟩)
    fun vs nw h N hV => by
      obtain ⟨u, t3, e0, t, op, ⟨tk, e2⟩, hp, ⟨ts, ws, kk, hw, hk, ga, jj⟩, hm⟩ := hV
      subst e0 e2
      refine (spec_ref1O w hw ga.2 (hP _ _ hp)).mono fun r news' ⟨hr, hw', hs⟩ => ?_
      exact ⟨hr, ⟨ts, ws, kk, hw', hk, ga.1, let ⟨pl, lj, r⟩ := jj; ⟨pl, lj.kept fun p hp _ => hs p hp, r⟩⟩, hs _ hm⟩
theorem ei_part (ps : List Pt) (f : Lf c) {fn : Str} {fa : Addr} {dd : Nat} {e : PySem.Expr} {es : List PySem.Expr} {p1 p2 : Pos} (hx : c.env.kindOf fn = some .globalImplicit) (hdb : (fn == ("__debug__" : Str)) = false) (hg : nsIn (kF w.params) mainGlobals fn = some (some (.ref fa))) (hp : keepIn (kF w.params) (.ref fa) = true) (hu0 : (e :: es).all unstarred = true)
    (ha : EiL c c.env l (LW c q v3 (fun _ => True) M) (e :: es) (ps.map Pt.ok) (LW c q v3 (fun _ => True) M))
    (hs : ∀ ts ws k nw, WO w q.b ts ws k q.W q.wd q.ta q.tb q.so nw → k ≤ M → PtE ps fun vs => Spec w fa 30 nw vs (TrueW w q.b (k + dd) q.W q.wd q.ta q.tb q.so nw)) :
    Ei c c.env l (LW c q v3 (fun _ => True) M) (.Call (.Name fn p1) (e :: es) [] p2) (isB true) (LW c q v3 (fun _ => True) (M + dd)) :=
  eg_call (sz := 30) (ei_glob hx hdb hg) hp rfl hu0 ha fun vs nw h N hV => by
    obtain ⟨hA, ts, ws, kk, hw, hk, _, jj⟩ := hV
    exact (pt_elim (hs ts ws kk nw hw hk) hA).mono fun r n ⟨ts', ws', c', hr, hw', hc, hkk⟩ => ⟨hr, ts', ws', c', hw', Nat.le_trans hc (Nat.add_le_add_right hk dd), trivial, jj.kept hkk⟩
theorem egl_mt {es : List PySem.Expr} {J : List Value → Led → Prop} {u : Value} (h : ∀ t op, isI t u → P t op → EgL c c.env l (LW c q v3 (Asked G t op d) M) es J) : EgL c c.env l (MT c q v3 G M P d X u) es J := by with_unfolding_all exact fun pos m s news Q E fo F N i ret => let ⟨t, op, hu, hp, lw, _⟩ := i; h t op hu hp pos m s news Q E fo F N lw ret
end

theorem bm_eq {w : World} : BM w "eq" 480 := ⟨by kernel_rfl, by kernel_rfl, by kernel_rfl, by kernel_rfl⟩
theorem bm_bit {w : World} : BM w "bit" 723 := ⟨by kernel_rfl, by kernel_rfl, by kernel_rfl, by kernel_rfl⟩
theorem bm_not {w : World} : BM w "not_of" 438 := ⟨by kernel_rfl, by kernel_rfl, by kernel_rfl, by kernel_rfl⟩
section
variable {w : World} {c : Fx w S517 40} {q : LQ} {x y z k more : Int} {v3 : Option Value} {G : List Term → Prop} {M : Nat} {l l' : FL} {nw nw' : Led} {D : Addr} {d : Sum Int (Int × Int)} {X : Led → Prop}
abbrev L517 (W : Addr) (x y z k more : Int) : FL := [(Str.ofString "k", isI k), (Str.ofString "more", isI more), (Str.ofString "z", isI z), (Str.ofString "y", isI y), (Str.ofString "x", isI x), (Str.ofString "world", isR W)]
theorem kept_x {p : Addr × Obj} (hD : Keep q.b p) (nw nw' : Led) (h : Kept q.b nw nw') (hm : p ∈ nw) : p ∈ nw' := h _ hm hD
theorem eg_bit9 (f : Lf c) {q1 q2 q3 : Int} {o1 o2 o3 : Str} {t1 t2 t3 : Tok} {p1 p2 p3 p4 p5 p6 p7 : Pos} {kk : Nat} (hM : M ≤ 900000) (k0 : 0 ≤ k) (k1 : k < q.wd) (hD : Keep q.b (D, listOf #[.int q1 t1, .int q2 t2, .int q3 t3] 0)) (lw : l.lookup (Str.ofString "world") = some (isR q.W)) (lk : l.lookup (Str.ofString "k") = some (isI k)) (he : Meth0 (.Name (Str.ofString "bank") p1) (Str.ofString "bit") p2 p3 [.Name (Str.ofString "k") p4, .Subscript (.Name (Str.ofString "world") p5) (.Constant (.str (Str.ofString "a")) kk p6) p7] c.env) :
    Eg c c.env l (AskL c q v3 M q1 q2 q3 o1 o2 o3 t1 t2 t3 D) (.Call (.Attribute (.Name (Str.ofString "bank") p1) (Str.ofString "bit") p2) [.Name (Str.ofString "k") p4, .Subscript (.Name (Str.ofString "world") p5) (.Constant (.str (Str.ofString "a")) kk p6) p7] [] p3)
      (MT c q v3 (Ask3 q1 q2 q3 o1 o2 o3) (M + 1) (fun _ o => o = Str.ofString "bit") (.inl k) fun nw => (D, listOf #[.int q1 t1, .int q2 t2, .int q3 t3] 0) ∈ nw) :=
  eg_mkT [.I k, .I q.ta] f bm_bit (fun es af => af.bit) rfl (eil_cons rfl (ei_name lk (by kernel_rfl) (by decide)) (eil_cons rfl (ei_wA (ei_name lw (by kernel_rfl) (by decide)) fun nw i => i.1.dict) eil_nil)) (fun ts ws j nw hw hk _ t1 t2 => spec_bitO w hw (by omega) k0 k1) Ask3.mono (kept_x hD) he
theorem eg_not9 (f : Lf c) {q1 q2 q3 : Int} {o1 o2 o3 : Str} {t1 t2 t3 kk : Tok} {p1 p2 p3 p4 p5 p6 : Pos} (hM : M ≤ 950000) (hq : EqP q1 o1) (hD : Keep q.b (D, listOf #[.int q1 t1, .int q2 t2, .int q3 t3] 0)) (la : l.lookup (Str.ofString "asked") = some (isR D)) (he : Meth0 (.Name (Str.ofString "bank") p1) (Str.ofString "not_of") p2 p3 [.Subscript (.Name (Str.ofString "asked") p5) (.Constant (.int 0) kk p6) p4] c.env) :
    Eg c c.env l (AskL c q v3 M q1 q2 q3 o1 o2 o3 t1 t2 t3 D) (.Call (.Attribute (.Name (Str.ofString "bank") p1) (Str.ofString "not_of") p2) [.Subscript (.Name (Str.ofString "asked") p5) (.Constant (.int 0) kk p6) p4] [] p3)
      (MT c q v3 (Ask3 q1 q2 q3 o1 o2 o3) (M + 1) (fun _ o => o = Str.ofString "not" ∨ o = Str.ofString "false") (.inl 0) fun nw => (D, listOf #[.int q1 t1, .int q2 t2, .int q3 t3] 0) ∈ nw) :=
  eg_mkT [.I q1] f bm_not (fun es af => af.not_of) rfl (eil_cons rfl (ei_item (ei_name la (by kernel_rfl) (by decide)) ei_int (fun nw i => ⟨_, _, _, i.2, rfl, ⟨_, rfl⟩, by decide, by decide⟩) fun t => by with_unfolding_all rfl) eil_nil) (fun ts ws j nw hw hk g t1 => spec_notO w hw (by omega) g.1 hq) Ask3.mono (kept_x hD) he
theorem law_9 (f : Lf c) {q1 q2 q3 : Int} {o1 o2 o3 : Str} {t1 t2 t3 : Tok} (h1 : Op4 o1) (h2 : Op4 o2) (h3 : Op4 o3) (hq : EqP q1 o1) (hD : Keep q.b (D, listOf #[.int q1 t1, .int q2 t2, .int q3 t3] 0)) (hM : M ≤ 900000) (k0 : 0 ≤ k) (k1 : k < q.wd) :
    Sg c (AskL c q v3 M q1 q2 q3 o1 o2 o3 t1 t2 t3 D) ((Str.ofString "asked", isR D) :: L517 q.W x y z k more) ((bodyOf (pickS 47)).drop 9) := by
  have hcl := f.cl
  apply sr_ifF
  · apply et_asked f h1 h2 h3 rfl
    · kernel_rfl
    · (show closureFor _ (envX c.cn S517 c.L c.a c.ccd c.cl) = _; rw [hcl]; rfl)
    · decide
    · decide
    · rfl
    · rfl
    · exact fun C => by kernel_rfl
    · exact fun C => by kernel_rfl
    · exact fun C => by kernel_rfl
  with_reducible apply sg_ret2
  · exact ei_ref1 f rfl (fun t o h => .inl h) (fun nw i => i.1.jj) (eg_bit9 f hM k0 k1 hD rfl rfl (meth0 rfl rfl rfl rfl))
  · exact ei_ref1 f rfl (fun t o h => .inr h) (fun nw i => i.1.jj) (eg_not9 f (Nat.le_trans (Nat.succ_le_succ hM) (Nat.le_of_ble_eq_true rfl)) hq hD rfl (meth0 rfl rfl rfl rfl))
theorem eg_eq8 (f : Lf c) {p1 p2 p3 p4 p5 p6 p7 p8 p9 : Pos} {ka kb : Nat} (hG : ∀ ts ts', ts <+: ts' → G ts → G ts') (hM : M ≤ 900000) (lw : l.lookup (Str.ofString "world") = some (isR q.W))
    (he : Meth0 (.Name (Str.ofString "bank") p1) (Str.ofString "eq") p2 p3 [.Subscript (.Name (Str.ofString "world") p4) (.Constant (.str (Str.ofString "a")) ka p5) p6, .Subscript (.Name (Str.ofString "world") p7) (.Constant (.str (Str.ofString "b")) kb p8) p9] c.env) :
    Eg c c.env l (LW c q v3 G M) (.Call (.Attribute (.Name (Str.ofString "bank") p1) (Str.ofString "eq") p2) [.Subscript (.Name (Str.ofString "world") p4) (.Constant (.str (Str.ofString "a")) ka p5) p6, .Subscript (.Name (Str.ofString "world") p7) (.Constant (.str (Str.ofString "b")) kb p8) p9] [] p3)
      (MT c q v3 G (M + 1) EqP (.inl 0) (fun _ => True)) :=
  eg_pre (eg_mkT [.I q.ta, .I q.tb] f bm_eq (fun es af => af.eq) rfl (eil_cons rfl (ei_wA (ei_name lw (by kernel_rfl) (by decide)) fun nw i => i.1.dict) (eil_cons rfl (ei_wB (ei_name lw (by kernel_rfl) (by decide)) fun nw i => i.1.dict) eil_nil)) (fun ts ws j nw hw hk _ t1 t2 => spec_eqO w hw (by omega)) hG (fun _ _ _ _ => trivial) he) fun nw i => ⟨i, trivial⟩
theorem eg_ask8 (f : Lf c) {p1 p2 p3 p4 p5 p6 p7 p8 p9 pA : Pos} {ka kb kc : Nat} {op : Str} (hop : op = Str.ofString "bvult" ∨ op = Str.ofString "bvsle") (hG : ∀ ts ts', ts <+: ts' → G ts → G ts') (hM : M ≤ 900000) (lw : l.lookup (Str.ofString "world") = some (isR q.W))
    (he : Meth0 (.Name (Str.ofString "bank") p1) (Str.ofString "bv_two") p2 p3 [.Constant (.str op) kc pA, .Subscript (.Name (Str.ofString "world") p4) (.Constant (.str (Str.ofString "a")) ka p5) p6, .Subscript (.Name (Str.ofString "world") p7) (.Constant (.str (Str.ofString "b")) kb p8) p9] c.env) :
    Eg c c.env l (LW c q v3 G M) (.Call (.Attribute (.Name (Str.ofString "bank") p1) (Str.ofString "bv_two") p2) [.Constant (.str op) kc pA, .Subscript (.Name (Str.ofString "world") p4) (.Constant (.str (Str.ofString "a")) ka p5) p6, .Subscript (.Name (Str.ofString "world") p7) (.Constant (.str (Str.ofString "b")) kb p8) p9] [] p3)
      (MT c q v3 G (M + 1) (fun _ o => o = op) (.inl 0) (fun _ => True)) :=
  eg_pre (eg_mkT [.S op, .I q.ta, .I q.tb] f bm_bv_two (fun es af => af.bv_two) rfl (eil_cons rfl ei_str (eil_cons rfl (ei_wA (ei_name lw (by kernel_rfl) (by decide)) fun nw i => i.1.dict) (eil_cons rfl (ei_wB (ei_name lw (by kernel_rfl) (by decide)) fun nw i => i.1.dict) eil_nil))) (fun ts ws j nw hw hk _ t0 t1 t2 => spec_askO w hw (by omega) hop) hG (fun _ _ _ _ => trivial) he) fun nw i => ⟨i, trivial⟩
theorem asked_mono {t : Int} {op : Str} (hG : ∀ ts ts', ts <+: ts' → G ts → G ts') (ts ts' : List Term) (q : ts <+: ts') (h : Asked G t op d ts) : Asked G t op d ts' := ⟨hG _ _ q h.1, h.2.mono q⟩
theorem tt_mono (ts ts' : List Term) (_ : ts <+: ts') (_ : True) : True := trivial
inductive A3 (c : Fx w S517 40) (q : LQ) (v3 : Option Value) (M : Nat) (vs : List Value) (nw : Led) : Prop
  | mk (q1 q2 q3 : Int) (o1 o2 o3 : Str) (t1 t2 t3 : Tok) (hv : vs = [.int q1 t1, .int q2 t2, .int q3 t3]) (h1 : EqP q1 o1) (h2 : Op4 o2) (h3 : Op4 o3) (lw : LW c q v3 (Ask3 q1 q2 q3 o1 o2 o3) M nw) : A3 c q v3 M vs nw
theorem law_8 (f : Lf c) (hM : M ≤ 800000) (k0 : 0 ≤ k) (k1 : k < q.wd) : Sg c (LW c q v3 (fun _ => True) M) (L517 q.W x y z k more) ((bodyOf (pickS 47)).drop 8) := by
  with_unfolding_all
    apply sr_set
    · rfl
    · kernel_rfl
    · refine eg_list (JA := A3 c q v3 (M + 1 + 1 + 1)) ?_ fun vs nw j => ?_
      · refine egl_cons rfl (eg_eq8 f tt_mono (by omega) rfl (meth0 rfl rfl rfl rfl)) fun u1 => egl_mt fun q1 o1 e1 h1 => ?_
        refine egl_cons rfl (eg_ask8 f (.inl rfl) (asked_mono tt_mono) (by omega) rfl (meth0 rfl rfl rfl rfl)) fun u2 => egl_mt fun q2 o2 e2 h2 => ?_
        refine egl_cons rfl (eg_ask8 f (.inr rfl) (asked_mono (asked_mono tt_mono)) (by omega) rfl (meth0 rfl rfl rfl rfl)) fun u3 => egl_mt fun q3 o3 e3 h3 => egl_nil fun nw i => ?_
        obtain ⟨t1, e1⟩ := e1
        obtain ⟨t2, e2⟩ := e2
        obtain ⟨t3, e3⟩ := e3
        subst e1 e2 e3
        obtain ⟨ts, ws, kk, hw, hk, g, jj⟩ := i
        exact ⟨q1, q2, q3, o1, o2, o3, t1, t2, t3, rfl, h1, .inr (.inr (.inl h2)), .inr (.inr (.inr h3)), ts, ws, kk, hw, hk, ⟨g.1.1.2, g.1.2, g.2⟩, jj⟩
      · obtain ⟨q1, q2, q3, o1, o2, o3, t1, t2, t3, e, _⟩ := j
        subst e
        exact Nat.le_of_ble_eq_true rfl
    · intro u m s news Q fo F N i ret
      obtain ⟨D, vs, nw0, e1, e2, ⟨q1, q2, q3, o1, o2, o3, t1, t2, t3, e3, h1, h2, h3, hw⟩, hD⟩ := i
      subst e1 e2 e3
      exact law_9 f (h1.elim (fun h => .inl h.1) fun h => .inr (.inl h.1)) h2 h3 h1 (let ⟨_, _, _, hw, _, _, _⟩ := hw; .inr (.inr (.inr (hw.fb.offB fun p hp => Nat.ne_of_lt (hD p hp))))) (by omega) k0 k1 m s _ Q fo F N ⟨hw.cons, .head _⟩ ret
theorem law_7 (f : Lf c) (hM : M ≤ 700000) (hx : InR q.wd x) (hy : InR q.wd y) (hz : InR q.wd z) (k0 : 0 ≤ k) (k1 : k < q.wd) (m1 : 1 ≤ more) (m2 : more ≤ 5) : Sg c (LW c q v3 (fun _ => True) M) (L517 q.W x y z k more) ((bodyOf (pickS 47)).drop 6) := by
  refine sr_ifF (et_or2 (et_not (ei_part (fa := 797) (dd := 60) [.R q.W, .I x, .I y, .I z] f (by kernel_rfl) (by decide) (by kernel_rfl) (by kernel_rfl) rfl (eil_cons rfl (ei_name rfl) (eil_cons rfl (ei_name rfl) (eil_cons rfl (ei_name rfl) (eil_cons rfl (ei_name rfl) eil_nil)))) fun ts ws kk nw hw hk t2 t3 t4 => spec_sums w hw (by omega) hx.1 hx.2 hy.1 hy.2 hz.1 hz.2))
    (et_not (ei_part (fa := 804) (dd := 60) [.R q.W, .I x, .I y, .I z] f (by kernel_rfl) (by decide) (by kernel_rfl) (by kernel_rfl) rfl (eil_cons rfl (ei_name rfl) (eil_cons rfl (ei_name rfl) (eil_cons rfl (ei_name rfl) (eil_cons rfl (ei_name rfl) eil_nil)))) fun ts ws kk nw hw hk t2 t3 t4 => spec_products w hw (by omega) hx.1 hx.2 hy.1 hy.2 hz.1 hz.2))) ?_
  refine sr_ifF (et_or2 (et_not (ei_part (fa := 809) (dd := 60) [.R q.W, .I x, .I y, .I k] f (by kernel_rfl) (by decide) (by kernel_rfl) (by kernel_rfl) rfl (eil_cons rfl (ei_name rfl) (eil_cons rfl (ei_name rfl) (eil_cons rfl (ei_name rfl) (eil_cons rfl (ei_name rfl) eil_nil)))) fun ts ws kk nw hw hk t2 t3 t4 => spec_places w hw (by omega) hx.1 hx.2 hy.1 hy.2 k0 k1))
    (et_not (ei_part (fa := 814) (dd := 220) [.R q.W, .I x, .I y, .I k, .I more] f (by kernel_rfl) (by decide) (by kernel_rfl) (by kernel_rfl) rfl (eil_cons rfl (ei_name rfl) (eil_cons rfl (ei_name rfl) (eil_cons rfl (ei_name rfl) (eil_cons rfl (ei_name rfl) (eil_cons rfl (ei_name rfl) eil_nil))))) fun ts ws kk nw hw hk t2 t3 t4 t5 => spec_cuts w hw (by omega) hx.1 hx.2 hy.1 hy.2 k0 k1 m1 m2))) ?_
  exact law_8 f (by omega) k0 k1
end

section
variable {w : World} {S : Scope} {z : Nat} {c : Fx w S z} {env : Env} {l : FL} {I I1 I2 : Led → Prop}
theorem ei_add1 {a b : PySem.Expr} {p : Pos} {i lo hi : Int} (ha : Ei c env l I a (isI i) I1) (hb : Ei c env l I1 b (isIn lo hi) I2) : Ei c env l I (.BinOp a .Add b p) (isIn (i + lo) (i + hi)) I2 := ei_bin ha hb fun u v s m news Q E hu hv F N ret => by
  obtain ⟨t1, rfl⟩ := hu
  obtain ⟨y, t2, rfl, y0, y1⟩ := hv
  exact add_int (ret _ _ ⟨_, _, rfl, Int.add_le_add_left y0 _, Int.add_lt_add_left y1 _⟩)
end
section
variable {w : World} {c : Fx w S517 40} {q : LQ} {x y z : Int} {v3 : Option Value} {l : FL} {nw nw' : Led} {ts : List Term} {ws : List Int} {k0 : Nat} {X : Led → Prop} {M : Int} {tw : Tok}
theorem ei_wid (f : Lf c) {I : Led → Prop} (hI : ∀ nw, I nw → ∃ M, JJ c q (some (.int q.wd tw)) M nw) {p : Pos} : Ei c c.env l I (.Name (Str.ofString "width") p) (isI q.wd) I :=
  ei_cell (fun nw i => let ⟨_, _, lj, _⟩ := hI nw i; let ⟨o, h1, h2⟩ := lj.c3; ⟨_, o, _, cl_width f, h1, h2, _, rfl⟩) (by kernel_rfl) (by decide)
def Lifts {w : World} (c : Fx w S517 40) (q : LQ) (X : Led → Prop) : Prop := ∀ nw nw' h pl, News c.g c.L h nw → X nw → JackIs q.C q.arr nw q.J pl → @LT.lt Nat _ q.J q.b.M.D → (∀ p ∈ nw, @Ne Nat p.1 q.J → p ∈ nw') → X nw'
theorem ei_liftJ (f : Lf c) {e : PySem.Expr} {many : Int} {p1 p2 p3 : Pos} (HX : Lifts c q X) (h1 : 1 ≤ many) (h2 : many ≤ 1048573) (hM : M ≤ 100) (hu : unstarred e = true) (he : Ei c c.env l (fun nw => X nw ∧ JJ c q v3 M nw) e (isI many) (fun nw => X nw ∧ JJ c q v3 M nw)) :
    Ei c c.env l (fun nw => X nw ∧ JJ c q v3 M nw) (.Call (.Name (Str.ofString "_law_lift") p1) [.Name (Str.ofString "jack") p2, e] [] p3) (isIn 0 many) (fun nw => X nw ∧ JJ c q v3 (M + 1) nw) :=
  eg_call (f := 756) (sz := 3) (ei_glob (by kernel_rfl) (by decide) gl_lift) kp_lift rfl (Bool.and_eq_true_iff.mpr ⟨rfl, Bool.and_eq_true_iff.mpr ⟨hu, rfl⟩⟩)
    (eil_cons (V := isR q.J) rfl (ei_cell (fun nw i => let ⟨_, lj, _⟩ := i.2; let ⟨o, h1, h2⟩ := lj.c1; ⟨_, o, _, cl_jack f, h1, h2, rfl⟩) (by kernel_rfl) (by decide)) (eil_cons hu he eil_nil))
    fun vs nw h N hV => by
      obtain ⟨hA, hx, pl, lj, hpl⟩ := hV
      refine pt_elim (ps := [.R q.J, .I many]) (P := fun vs => Spec w 756 3 nw vs _) (fun t => ?_) hA
      exact (spec_lift w lj.jk (Int.le_trans hpl hM) h1 h2).mono fun r n ⟨h, jk, hk⟩ => ⟨h, HX _ _ _ _ N hx lj.jk lj.lJ hk, pl + 1, lj.lift N jk hk, Int.add_le_add_right hpl 1⟩
abbrev WJ (c : Fx w S517 40) (q : LQ) (ts : List Term) (ws : List Int) (k0 : Nat) (nw : Led) : Prop := WO w q.b ts ws k0 q.W q.wd q.ta q.tb q.so nw
theorem wj_lifts : Lifts c q (WJ c q ts ws k0) := fun nw nw' h pl N hw jk hJ hk => hw.jack N jk hJ hk
theorem law_6 (f : Lf c) (hM : k0 ≤ 600000) (hx : InR q.wd x) (hy : InR q.wd y) (hz : InR q.wd z) (w1 : 1 ≤ q.wd) (w2 : q.wd ≤ 70) :
    Sg c (fun nw => WJ c q ts ws k0 nw ∧ JJ c q (some (.int q.wd tw)) 20 nw) [(Str.ofString "z", isI z), (Str.ofString "y", isI y), (Str.ofString "x", isI x), (Str.ofString "world", isR q.W)] ((bodyOf (pickS 47)).drop 5) :=
  sr_tupX (α := Int × Int) (U1 := fun a => isI a.1) (U2 := fun a => isI a.2) (K := fun a nw => (0 ≤ a.1 ∧ a.1 < q.wd ∧ 1 ≤ a.2 ∧ a.2 < 6) ∧ WJ c q ts ws k0 nw ∧ JJ c q (some (.int q.wd tw)) 22 nw) (by kernel_rfl) (by kernel_rfl) rfl rfl
    (eil_cons rfl (ei_liftJ f wj_lifts w1 (Int.le_trans w2 (by decide)) (by decide) rfl (ei_wid f fun nw i => ⟨_, i.2⟩)) (eil_cons rfl (ei_add1 ei_int (ei_liftJ f wj_lifts (by decide) (by decide) (by decide) rfl ei_int)) eil_nil))
    (fun vs nw j => by
      obtain ⟨v1, v2, e, ⟨a, ta, e1, a0, a1⟩, ⟨b, tb, e2, b0, b1⟩⟩ := alls2 j.1
      exact ⟨(a, b), v1, v2, e, ⟨ta, e1⟩, ⟨tb, e2⟩, fun e => ⟨⟨a0, a1, b0, b1⟩, j.2.1.cons, j.2.2.cons⟩⟩)
    fun a => sr_and fun hq => sr_pre (law_7 (M := 600000) f (by decide) hx hy hz hq.1 hq.2.1 hq.2.2.1 (Int.le_of_lt_add_one hq.2.2.2)) fun nw i => ⟨_, _, _, i.1, hM, trivial, i.2.le (by decide)⟩
theorem law_5 (f : Lf c) (hM : k0 ≤ 600000) (w1 : 1 ≤ q.wd) (w2 : q.wd ≤ 70) :
    Sg c (fun nw => WJ c q ts ws k0 nw ∧ JJ c q (some (.int q.wd tw)) 10 nw) [(Str.ofString "world", isR q.W)] ((bodyOf (pickS 47)).drop 4) := by
  with_unfolding_all
    exact fun m s news Q fo F N i ret => by
      have hcl := f.cl
      obtain ⟨wo, pl, lj, hpl⟩ := i
      refine wpAny_execs_cons (Assign_Tuple (ListComp_G F (cl := [(Str.ofString "width", c.L + 1 + 1 + 1), (Str.ofString "jack", c.L + 1)]) (by show closureFor _ (envX c.cn S517 c.L c.a c.ccd c.cl) = _; rw [hcl]; rfl) (by decide) (by kernel_rfl) (by decide) (Call_ (ei_blt (v := .type "range") (I := At news) (by kernel_rfl) (by decide) (by decide) (by kernel_rfl) (by kernel_rfl) m s news _ _ fo F N rfl fun u nw0 h0 tk0 F0 N0 j0 => ?_)) (fun v => rfl)) rfl rfl)
      obtain ⟨e1, e2⟩ := j0
      subst e1 e2
      refine PyProof.Rows.callWith_type1 (args_cons (wpAny_Constant_int (args_nil (range1_rows F0 N0 fun h2 tk2 t2 u2 v2 hR F2 N2 _ => ?_)))) rfl rfl
      refine srcR (n := 3) (fun i ys nw => NJ w q.b ts ws k0 q.W q.wd q.ta q.tb q.so (c.L + 1) (c.L + 1 + 1) (c.L + 1 + 1 + 1) (some (.ref q.J)) (some (.ref q.b.M.B)) (some (.int q.wd tw)) q.J q.C q.arr pl i ys nw) rfl F2 N2 hR rfl rfl (by show 3 ≤ sizeLine; decide) (by kernel_rfl) rfl (NJ.zero wo lj) ?step ?fin
      case step =>
        intro g I0 ord9 i ys nw oI C0 oC D2 m₂ h tk E' hi _ ⟨wo8, ⟨pl8, lj8, hpl8⟩, hl8, hy8⟩ kI hoC F8 N8 off8 ne8 ord8
        have ordW := wo.above
        obtain ⟨oZ, kZ, mZ, _⟩ := wo.dict
        have ordW := ord8 _ mZ
        have hi3 : i < 3 := hi
        obtain ⟨oJ8, cJ8, dJ8⟩ := lj8.c1
        obtain ⟨oW8, cW8, dW8⟩ := lj8.c3
        refine eg_call (I := At ((I0, oI) :: (C0, oC) :: (D2, LCg.lst ys) :: nw)) (J := Numbered q.C q.arr ((I0, oI) :: (C0, oC) :: (D2, LCg.lst ys) :: nw) q.J pl8 q.wd) (f := 763) (sz := 6) (ei_globC rfl (by kernel_rfl) (by kernel_rfl) (by decide) (by kernel_rfl)) (by kernel_rfl) rfl rfl
          (eil_cons rfl (ei_free (V := isR q.J) (fun nw9 e => ⟨oJ8, _, by rw [show nw9 = _ from e]; exact .tail _ (.tail _ (.tail _ cJ8)), dJ8, rfl⟩) rfl (by kernel_rfl) (by kernel_rfl) (by decide)) (eil_cons rfl (ei_free (V := isI q.wd) (fun nw9 e => ⟨oW8, _, by rw [show nw9 = _ from e]; exact .tail _ (.tail _ (.tail _ cW8)), dW8, _, rfl⟩) rfl (by kernel_rfl) (by kernel_rfl) (by decide)) eil_nil))
          (fun vs nw9 h9 N9 hV => ?_) m _ _ _ _ fok_nil F8 N8 rfl fun u nw9 h9 tk9 F9 N9 j9 => ?_
        · refine pt_elim (ps := [.R q.J, .I q.wd]) (P := fun vs => Spec w 763 6 nw9 vs _) (fun t2 => ?_) hV.1
          rw [show nw9 = _ from hV.2]
          exact spec_number w lj8.cons.cons.cons.jk (by omega) w1 w2
        · obtain ⟨q9, ⟨v9, t9, hr9, hl9, hu9⟩, hj9, hq9, hk9⟩ := j9
          subst hr9
          exact NJ.turn N8 wo8 lj8 hpl8 hl8 hy8 kI (by simp) hoC ordW F9 N9 hj9 hq9 hk9 hl9 hu9
      case fin =>
        intro g ys nw ⟨wo8, ⟨pl8, lj8, hpl8⟩, hl8, hy8⟩ D h tk F9 N9 of1
        obtain ⟨x, y, z, tx, ty, tz, e, x0, x1, y0, y1, z0, z1⟩ := nums3 hl8 hy8
        subst e
        refine kun_list F9 N9 ⟨_, N9.get (.head _), rfl, _, rfl⟩ rfl rfl rfl fun h2 F2 N2 => ?_
        exact assignInOrder_cons (assign_Name (storeX_L F2 N2 (fun h3 F3 N3 => assignInOrder_cons (assign_Name (storeX_L F3 N3 (fun h4 F4 N4 => assignInOrder_cons (assign_Name (storeX_L F4 N4 (fun h5 F5 N5 => assignInOrder_nil (law_6 f hM ⟨x0, x1⟩ ⟨y0, y1⟩ ⟨z0, z1⟩ w1 w2 _ _ _ Q (((fo.set ⟨tx, rfl⟩).set ⟨ty, rfl⟩).set ⟨tz, rfl⟩) F5 N5 ⟨wo8.cons, pl8, lj8.cons, by omega⟩ ret)) c.hk (by kernel_rfl)))) c.hk (by kernel_rfl)))) c.hk (by kernel_rfl)))
end

theorem forall6 {P : (Value → Prop) → Prop} {a b c d e f : Value → Prop} (h1 : P a) (h2 : P b) (h3 : P c) (h4 : P d) (h5 : P e) (h6 : P f) : ∀ W ∈ [a, b, c, d, e, f], P W := fun W h => by
  repeat (first | (cases h; done) | (cases h with | head => assumption | tail _ h => _))
section
variable {w : World} {c : Fx w S517 40} {q : LQ} {wd : Int} {v3 : Option Value} {l : FL} {nw nw' nw0 : Led} {ts : List Term} {ws : List Int} {k0 : Nat} {X : Led → Prop} {M : Int} {tw : Tok} {j : Nat}
inductive SortJ (c : Fx w S517 40) (q : LQ) (ts : List Term) (v3 : Option Value) (k0 : Nat) (wd : Int) (u : Value) (nw : Led) : Prop
  | mk (j : Nat) (ws' : List Int) (hu : isI (j : Int) u) (hx : ws'[j]? = some wd) (fb : FB w q.b ts ws' (k0 + 1) nw) (jj : JJ c q v3 10 nw) : SortJ c q ts v3 k0 wd u nw
theorem LJ.ne {D x1 x2 x3 : Nat} {T : Led} {v1 v2 v3 : Option Value} {J C l : Addr} {arr : Array Value} {pl : Int} (lj : LJ D T x1 x2 x3 v1 v2 v3 J C arr pl) (h : ∀ p ∈ T, @LT.lt Nat _ p.1 l) : @Ne Nat l J :=
  let ⟨_, _, _, _, h1⟩ := lj.jk; Ne.symm (Nat.ne_of_lt (h _ h1.jack))
theorem JJ.widthTo (h : JJ c q v3 M nw) : JJ c { q with wd := wd } v3 M nw := let ⟨pl, lj, r⟩ := h; ⟨pl, lj, r⟩
theorem in71 {i : Int} (h1 : 1 ≤ i) (h2 : i < 71) : ∀ u, isI i u → isIn 1 71 u := fun u ⟨t, e⟩ => ⟨i, t, e, h1, h2⟩
theorem eg_freshL (f : Lf c) {nm : Str} {kk : Nat} {p1 p2 p3 p4 p5 : Pos} (hl : l.lookup (Str.ofString "sort") = some (isI (j : Int))) (hM : k0 ≤ 900000) (fb : FB w q.b ts ws k0 nw0) (jj : JJ c q v3 M nw0) (he : Meth0 (.Name (Str.ofString "bank") p1) (Str.ofString "fresh_const") p2 p3 [.Constant (.str nm) kk p4, .Name (Str.ofString "sort") p5] c.env) :
    Eg c c.env l (At nw0) (.Call (.Attribute (.Name (Str.ofString "bank") p1) (Str.ofString "fresh_const") p2) [.Constant (.str nm) kk p4, .Name (Str.ofString "sort") p5] [] p3) (fun u nw' => ∃ kk, Made w q.b ts ws (k0 + 2) nw0 (Str.ofString "app", j, .inl kk) u nw') :=
  eg_meth (sz := 4) bm_fresh (ei_bank (v3 := v3) f (at_self ⟨_, jj⟩)) (at_self (fb.field fun es af => af.fresh_const)) rfl rfl
    (eil_cons rfl ei_str (eil_cons rfl (ei_name hl (by kernel_rfl) (by decide)) eil_nil))
    (fun vs nw h N hV => pt_elim (ps := [.S nm, .I j]) (P := fun vs => Spec w 277 4 nw (.ref q.b.M.B :: vs) _) (fun t1 t2 => by
      rw [show nw = nw0 from hV.2]
      exact spec_fresh w fb (by omega)) hV.1) he
theorem law_4 (f : Lf c) (hM : k0 ≤ 500000) (w1 : 1 ≤ wd) (w2 : wd ≤ 70) (hj : ws[j]? = some wd) :
    Sg c (fun nw => FB w q.b ts ws k0 nw ∧ JJ c q (some (.int wd tw)) 10 nw) [(Str.ofString "sort", isI (j : Int))] ((bodyOf (pickS 47)).drop 3) := by
  with_unfolding_all
    exact fun m s news Q fo F N i ret => by
      obtain ⟨fb, jj⟩ := i
      refine wpAny_execs_cons (wpAny_Assign_Name (kdn_str rfl F N (Top.nolimit c.T) rfl rfl (List.cons_ne_nil _ _) (Nat.le_of_ble_eq_true rfl) fun D h1 o1 F1 N1 l1 lo1 hd1 => ?_) rfl)
      obtain ⟨oV, _, _, hmV, _⟩ := fb.V
      have hVW := l1 _ hmV
      refine pairTrees_cons_walk (Constant_str (ei_bank (v3 := some (.int wd tw)) f (I := At ((D, o1) :: news)) (at_self ⟨_, jj.cons⟩) m _ _ _ _ fo F1 N1 rfl fun u1 nw1 h2 tk2 F2 N2 j2 => ?_))
      obtain ⟨e1, e2⟩ := j2
      subst e1 e2
      refine pairTrees_cons_walk (Constant_str (ei_wid (q := { q with wd := wd }) (tw := tw) f (I := At ((D, o1) :: news)) (at_self ⟨_, jj.cons.widthTo⟩) m _ _ _ _ fo F2 N2 rfl fun u2 nw2 h3 tk3 F3 N3 j3 => ?_))
      obtain ⟨⟨t3, e1⟩, e2⟩ := j3
      subst e1 e2
      refine pairTrees_cons_walk (Constant_str (eg_freshL f rfl (by omega) fb.cons jj.cons (meth0 rfl rfl rfl rfl) m _ _ _ _ fo F3 N3 rfl fun u4 nw4 h4 tk4 F4 N4 j4 => ?_))
      obtain ⟨ka, t8, u8, ts8, e1, hp8, fb8, hs8, hx8, hk8⟩ := j4
      subst e1
      have jj8 := jj.cons.kept hk8
      have hm8 := hk8 _ (.head _) (.inr (.inl hVW))
      refine pairTrees_cons_walk (Constant_str (eg_freshL f rfl (by omega) fb8 jj8 (meth0 rfl rfl rfl rfl) m _ _ _ _ fo F4 N4 rfl fun u6 nw6 h6 tk6 F6 N6 j6 => ?_))
      obtain ⟨kb, t6, u6, ts6, e1, hp6, fb6, hs6, hx6, hk6⟩ := j6
      subst e1
      have jj6 := jj8.kept hk6
      have hm6 := hk6 _ hm8 (.inr (.inl hVW))
      refine pairTrees_nil_walk ?_
      refine kdn_made_str (news := (_, _) :: less _ nw6) (g := fun o' => (_, o') :: less _ nw6) F6 (fun p hp => by
        rcases List.mem_cons.mp hp with rfl | hp
        · exact N6 _ hm6
        · exact N6 _ (mem_less.mp hp).1) (UpdF.head fun p hp => (mem_less.mp hp).2) hd1 (by rfl) (of_decide_eq_true (by rfl)) ?_
      intro hW oW F5 N5 hdW5
      have wo5 := wo_of (wd := wd) N6 fb6 hm6 hd1.choose_spec.choose_spec.1.1 hVW hdW5 (Int.natCast_nonneg _) (Int.natCast_nonneg _) ⟨_, _, get_prefix hs6 hx8⟩ ⟨_, _, hx6⟩ (Int.natCast_nonneg _) hj w1 w2
      exact storeX_L F5 N5 (fun h7 F7 N7 => law_5 (q := ⟨q.b, D, wd, _, _, _, q.J, q.C, q.arr⟩) f (by omega) w1 w2 _ _ _ Q (fo.set (V := isR D) rfl).one F7 N7 ⟨wo5, let ⟨pl, lj, r⟩ := jj6; ⟨pl, lj.dict (Nat.lt_trans fb6.ord.DV hVW), r⟩⟩ ret) c.hk (by kernel_rfl)
theorem law_3 (f : Lf c) (hM : k0 ≤ 400000) (w1 : 1 ≤ wd) (w2 : wd ≤ 70) :
    Sg c (fun nw => FB w q.b ts ws k0 nw ∧ JJ c q (some (.int wd tw)) 10 nw) [] ((bodyOf (pickS 47)).drop 2) := by
  with_unfolding_all
    apply sr_set (J := SortJ c q ts (some (.int wd tw)) k0 wd)
    · rfl
    · kernel_rfl
    · refine eg_meth (sz := 2) bm_bv_sort (ei_bank (v3 := some (.int wd tw)) f fun nw i => ⟨_, i.2⟩) (fun nw i => i.1.field fun es af => af.bv_sort) rfl rfl
        (eil_cons rfl (ei_wid (q := { q with wd := wd }) (tw := tw) f fun nw i => ⟨_, i.2.widthTo⟩) eil_nil) (fun vs nw h N hV => ?_) (meth0 rfl rfl rfl rfl)
      obtain ⟨hA, fb, jj⟩ := hV
      refine pt_elim (ps := [.I wd]) (P := fun vs => Spec w 646 2 nw (.ref q.b.M.B :: vs) _) (fun t1 => ?_) hA
      exact (spec_bv_sort w fb (by omega) w1 (by omega)).mono fun r n ⟨j, tk, ws', hr, hb, hv, hx, hk⟩ => ⟨j, ws', ⟨tk, hr⟩, hx, hb, jj.kept hk⟩
    · intro u m s news Q fo F N i ret
      obtain ⟨j, ws', hu, hx, fb, jj⟩ := i
      exact law_4 f (by omega) w1 w2 hx m s news Q (FOk.imp (fun v hv => hv ▸ hu) m fo) F N ⟨fb, jj⟩ ret
theorem JJ.width (h : JJ c q v3 M nw) {hh : Heap} (N : News c.g c.L hh nw) (f : Lf c) : ∃ a o, c.cl.lookup (Str.ofString "width") = some a ∧ (a, o) ∈ nw ∧ o.data = .cell v3 ∧ ∀ o' v, o'.data = .cell (some v) → ∀ {ts ws k0}, FB w q.b ts ws k0 nw → FB w q.b ts ws k0 ((a, o') :: less a nw) ∧ JJ c q (some v) M ((a, o') :: less a nw) :=
  let ⟨pl, lj, r⟩ := h
  let ⟨o, h1, h2⟩ := lj.c3
  ⟨_, o, cl_width f, h1, h2, fun o' v hd ts ws k0 fb => ⟨fb.cell N h1 h2 lj.l3, pl, lj.set3 N h1 h2 hd, r⟩⟩
theorem law_2 (f : Lf c) (hM : k0 ≤ 400000) : Sg c (fun nw => FB w q.b ts ws k0 nw ∧ JJ c q none 0 nw) [] ((bodyOf (pickS 47)).drop 1) := by
  apply sg_setC (J := fun u nw => isIn 1 71 u ∧ FB w q.b ts ws k0 nw ∧ JJ c q none 1 nw) (J1 := fun u nw => isIn 1 71 u ∧ FB w q.b ts ws k0 nw ∧ JJ c q (some u) 1 nw)
  · rfl
  · kernel_rfl
  · refine eg_menu (V := isIn 1 71) (I1 := fun nw => FB w q.b ts ws k0 nw ∧ JJ c q none 0 nw) (eil_cons rfl ei_int (eil_cons rfl ei_int (eil_cons rfl ei_int (eil_cons rfl ei_int (eil_cons rfl ei_int (eil_cons rfl ei_int eil_nil)))))) rfl (fun D o => ?_) (forall6 (in71 (by decide) (by decide)) (in71 (by decide) (by decide)) (in71 (by decide) (by decide)) (in71 (by decide) (by decide)) (in71 (by decide) (by decide)) (in71 (by decide) (by decide))) fun D i k => by with_unfolding_all rfl
    exact eg_mono (eg_pre (ei_liftJ (X := fun nw => (FB w q.b ts ws k0 nw ∧ @Ne Nat D q.J) ∧ (D, o) ∈ nw) (v3 := none) (M := 0) f (fun nw nw' h pl N hx jk hJ hk => ⟨⟨hx.1.1.jack N jk hJ hk, hx.1.2⟩, hk _ hx.2 hx.1.2⟩) (by decide) (by decide) (by decide) rfl ei_int) fun nw ⟨n0, ⟨fb, jj⟩, e, lt⟩ => by
        subst e
        exact ⟨⟨⟨fb.cons, let ⟨_, lj, _⟩ := jj; lj.ne lt⟩, .head _⟩, jj.cons⟩) fun u nw ⟨⟨i, t, hu, i0, i1⟩, ⟨⟨fb, _⟩, hm⟩, jj⟩ => ⟨i, ⟨t, hu⟩, ⟨i0, i1, hm⟩, fb, jj⟩
  · intro u nw h N j
    obtain ⟨hu, fb, jj⟩ := j
    obtain ⟨a, o, h1, h2, h3, h4⟩ := jj.width N f
    exact ⟨a, o, _, h1, h2, h3, fun o' hd => ⟨hu, h4 o' u hd fb⟩⟩
  · intro u
    refine sr_and fun hu => ?_
    obtain ⟨wd, tw, e, w1, w2⟩ := hu
    subst e
    exact sr_pre (law_3 (tw := tw) f hM w1 (Int.le_of_lt_add_one w2)) fun nw i => ⟨i.1, i.2.le (by decide)⟩
end
theorem sx_run {w : World} {S : Scope} {z : Nat} {c : Fx w S z} {l : FL} {I : Led → Prop} {ss : List Stmt} {R : Flow → (Str → Option Value) → Led → Prop} (h : Sx c I l ss R) {m : Str → Option Value} {s : Shared} {news : Led} {Q : Flow → Shared → Prop} (fo : FOk l m) (F : Fr c.g c.L s.heap m) (N : News c.g c.L s.heap news) (i : I news)
    (ret : ∀ f news' h' m' tk', Fr c.g c.L h' m' → News c.g c.L h' news' → R f m' news' → Q f { s with heap := h', toks := tk' }) : wpAny (model PP w) c.A (execs ss c.env) Q (fun _ _ => False) s := by with_unfolding_all exact h m s news Q fo F N i ret

def HaltL (p : Prop) : Prop := p
theorem haltL {p : Prop} (h : HaltL p) : p := h
theorem rowsLaw1 : True := by
  k_with "call ref" => (k_here; (with_reducible show wpAny _ _ (call (Value.ref 740) _) _ _ _); k_dflt (refine' use_specR (by k_asm) (by k_asm) (by k_asm) (by k_asm) (by k_asm) (by first | exact rfl | assumption) (by ktr_room) (by ktr_units) (spec_bank _) ?_; k_whole; intro r9 news9 h9 tk9 F9 N9 R9; obtain ⟨b9, c9, hr9, fb9, hc9, hk9⟩ := R9; subst hr9; (try dsimp only); (try k_fold)))
  k_with "storeName" => (k_here; (with_reducible show wpAny _ _ (storeName _ (PySem.Str.ofString "jack") _) _ _ _); refine haltL ?_)
  trivial
theorem thelaw : PySem.Challenge.rw_qz0021_01.Holds := hd (by rfl) (by rfl) (by rfl) (by
  unfold kH
  k_fill
  intro w s₀ s₁ mg mb G Y fa o pm cd doc dV kV ho hd hcd hD hmg hg args vals as hpre hlay hrd hwl hlo
  have KX := kIn_of Y
  have X := (Ground.X G).1
  have V := (Ground.X G).2
  refine Ground.open G ?_
  intro T B D TE TW
  try (refine guard_noD D (by decide +kernel) ?_; clear D)
  obtain ⟨_, _, M⟩ := bmod_of_top T
  have TA := at_of_top T
  try (obtain ⟨_, _, he, B0⟩ := based_of_top T rfl hmg ho hd; have he' : cd = _ := he; subst he'; clear he)
  clear hmg
  wrow_args hpre hlay hrd hwl hlo
  all_goals (
    first | refine callC_kw (enter_call ?_) | refine enter_call ?_ | refine callC_kw (enter_callW ?_) | refine enter_callW ?_ | w_how
    w_top on
    try refine codeAny_mono ?_ (fun _ _ g => GoodW.toG g)
    have K0 := below_caller (Top.heap T)
    w_call any ho hd hcd hD T F
    clear hd TA
    k_drop
    skip)
  (all_goals try k_fold)
  k_steps
  rename Fr _ _ _ _ => kF9
  rename News _ _ _ _ => kN9
  rename FB _ _ _ _ _ _ => fb9
  rename ∀ p ∈ _, p ∈ _ ∧ _ => hk9
  rename IntsAre _ (List.map _ _) => hI9
  have e1 := hk9 _ (.head _)
  have e2 := hk9 _ (.tail _ (.head _))
  have e4 := hk9 _ (.tail _ (.tail _ (.tail _ (.head _))))
  have e5 := hk9 _ (.tail _ (.tail _ (.tail _ (.tail _ (.head _)))))
  have e6 := hk9 _ (.tail _ (.tail _ (.tail _ (.tail _ (.tail _ (.head _))))))
  have lj9 := LJ.mk (jack_of (fun p hp => kN9 p (.tail _ hp)) e1.1 e2.1 hI9) (cellN e6.1 (by assumption)) (cellN e5.1 (by assumption)) (cellN e4.1 (by assumption)) e6.2 e5.2 e4.2 e1.2 e2.2 (by omega) (by omega) (by omega)
  clear hk9 e1 e2 e4 e5 e6 hI9
  repeat (rename _ = Data.cell _ => q0; clear q0)
  (try (rename Heap.CodeRec _ _ _ => q0; clear q0))
  obtain ⟨oJ, cJ, dJ⟩ := lj9.c1
  unfold HaltL
  refine storeC_op kF9 kN9 (by rfl) (.tail _ cJ) dJ ?_
  intro h6 o6 F6 N6 d6
  obtain ⟨T6, N6, fb6, lj6⟩ := ls_1 kN9 fb9.cons lj9.cons (.tail _ cJ) dJ N6 d6
  clear cJ dJ d6 fb9 lj9 kF9 kN9
  obtain ⟨oB, cB, dB⟩ := lj6.c2
  refine assignInOrder_cons (assign_Name (storeC_op F6 N6 (by rfl) cB dB ?_))
  intro h7 o7 F7 N7 d7
  obtain ⟨T7, N7, fb7, lj7⟩ := ls_2 N6 fb6 lj6 cB dB N7 d7
  clear cB dB d7 fb6 lj6 F6 N6
  refine assignInOrder_nil ?_
  rename Below _ _ _ _ => B9
  rename Top _ _ _ _ _ _ => T9
  rename (kF _).In _ => X9
  rename Shared => s9
  refine wpAny_mono (sx_run (law_2 (q := ⟨_, 0, 0, 0, 0, 0, _, _, _⟩) (k0 := _) (ts := _) (ws := _) (c := ⟨_, _, _, callerA.depth + 1, callerA.units + 3, _, Str.ofString "law", s9.heap.objs.size, _, _, _, [], _, _, _, B9, X9, T9, by decide +kernel, by decide +kernel, by kernel_rfl⟩) ⟨rfl, ⟨_, B9⟩, rfl⟩ (by omega)) (news := T7) fok_nil F7 N7 ⟨fb7, 0, lj7, Int.le_refl _⟩ ?ret) (fun _ _ x => x) (fun _ _ x => x.elim)
  intro u9 news' h' m' tk' F' N' r9
  obtain ⟨v9, e9, e8⟩ := r9
  have e8 : v9 = .bool true := e8
  subst e8 e9
  k_steps)


end Mine
theorem PySem.Challenge.cw_qz0021_01_holds : PySem.Challenge.rw_qz0021_01.Holds :=
  Mine.thelaw
