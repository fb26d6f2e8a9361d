import PyProof.Rows.All
import Wide.All
import OpenK.AllK
import Wide.FinOn
import Lean
import PySem.Challenge.RW_pf0199_01
open PySem PySem.W PyProof.Rows
set_option Elab.async false
set_option linter.unusedVariables false
set_option maxRecDepth 100000
namespace Mine
noncomputable section
abbrev pw : Program := PySem.Challenge.pw_pf0199_01
def annE : Option Value := some (.ref 6)
def pos0 : Pos := { line := 0, col := 0, endLine := 0, endCol := 0 }
def bE : List Stmt := behindTheImports pw
def envE : Env := { scope := pw.main.scope, locals := mainNs, globals := mainNs, cells := [], code := .ref 13, frame := some 14 }
def everySecond : List Obj → List Obj
  | [] => []
  | [o] => [o]
  | o :: _ :: r => o :: everySecond r
/-- a tree of the first objects: the second, fourth .. to the left, the third, fifth .. to the right -/
def grow : Nat → List Obj → BT
  | 0, _ => .nil
  | _ + 1, [] => .nil
  | n + 1, o :: r => .node o (grow n (everySecond r)) (grow n (everySecond r.tail))
/-- a def of the text: a row of the top, or a row of a class -/
def dOf (i j : Nat) : Arguments × List Stmt × Scope := match bE[i]? with
  | some (.FunctionDef _ ps b _ _ _ sc _ _ _) => (ps, b, sc)
  | some (.ClassDef _ _ _ cb _ _ _ _ _ _ _) => (match cb[j]? with
    | some (.FunctionDef _ ps b _ _ _ sc _ _ _) => (ps, b, sc)
    | _ => (⟨[], [], none, [], [], none, []⟩, [], pw.main.scope))
  | _ => (⟨[], [], none, [], [], none, []⟩, [], pw.main.scope)
local macro_rules | `(tactic| walk_at "twins") => `(tactic| (try rw [PySem.W.Fast.te10110043849684766642, PySem.W.Fast.te14364793385576792824]))
noncomputable def ob0 (P : Params) (x2 x3 x12 : Obj) : List Obj := [
  boot_o_0 P,
  boot_o_1 P,
  x2,
  x3,
  boot_o_4 P,
  boot_o_5 P,
  boot_o_6 P,
  boot_o_7 P,
  boot_o_8 P,
  boot_o_9 P,
  boot_o_10 P,
  ⟨.type "tuple", none, (.seq #[] 0), #[]⟩,
  x12,
  ⟨.type "code", none, (.fields #[.str "<module>" 182, .str "<module>" 183, .str "/claim/cut.py" 184, .int 1 0, .int 0 0, .int 0 0, .int 0 0, .int 0 0, .ref 11, .bool false, .int 181 0, .ref 12, .none, .none, .none, .none, .int 185 0, .int 1 0, .str "/claim/cut.py" 186]), #[]⟩,
  ⟨.type "frame", none, .plain, #[(some (.ref 13)), (some (.ref 3)), (some (.ref 3)), none, (some (.str "__main__" 164)), none, (some (.ref 0))]⟩]
noncomputable def ob1 (P : Params) (x38 : Obj) : List Obj := [
  ⟨.type "tuple", none, (.seq #[] 0), #[]⟩,
  ⟨.none, none, (.fields #[]), #[]⟩,
  ⟨.type "tuple", none, (.seq #[.str "k" 190] 0), #[]⟩,
  ⟨.type "tuple", none, (.seq #[] 0), #[]⟩,
  ⟨.none, none, (.func ⟨"_wall", "_wall", (dOf 0 0).1, .stmts (dOf 0 0).2.1, (dOf 0 0).2.2, 0, [], .none, .none, .none, .none, none, .none, .none, 0⟩), #[]⟩,
  ⟨.type "code", none, (.fields #[.str "_wall" 187, .str "_wall" 188, .str "/claim/cut.py" 189, .int 1 0, .int 1 0, .int 0 0, .int 0 0, .int 3 0, .ref 15, .bool true, .int 181 0, .ref 16, .none, .ref 17, .ref 18, .ref 19, .int 191 0, .int 1 0, .str "/claim/cut.py" 192]), #[]⟩,
  ⟨.type "function", none, (.func ⟨"_wall", "_wall", (dOf 0 0).1, .stmts (dOf 0 0).2.1, (dOf 0 0).2.2, 3, [], .none, .none, .none, .str "__main__" 164, none, .ref 20, .none, 0⟩), #[]⟩,
  ⟨.type "tuple", none, (.seq #[.type "Exception"] 0), #[]⟩,
  ⟨.type "builtin_function_or_method", none, (.fields #[.builtin "type.__prepare__", .type "type"]), #[]⟩,
  ⟨.type "dict", none, (.dict #[⟨PyData.keyHash P "__module__", .str "__module__" 203, .str "outlinemill.errors" 194⟩, ⟨PyData.keyHash P "__qualname__", .str "__qualname__" 205, .str "MillError" 204⟩, ⟨PyData.keyHash P "__firstlineno__", .str "__firstlineno__" 207, .int 5 206⟩, ⟨PyData.keyHash P "__init__", .str "__init__" 215, .ref 35⟩, ⟨PyData.keyHash P "__static_attributes__", .str "__static_attributes__" 217, .ref 36⟩] 5), #[]⟩,
  ⟨.type "tuple", none, (.seq #[] 0), #[]⟩,
  ⟨.none, none, (.fields #[.int 7 0, .int 4 0, .ref 34]), #[]⟩,
  ⟨.type "code", none, (.fields #[.str "MillError" 198, .str "MillError" 199, .str "/claim/cut.py" 200, .int 5 0, .int 0 0, .int 0 0, .int 0 0, .int 0 0, .ref 25, .bool false, .int 181 0, .ref 26, .none, .none, .none, .none, .int 201 0, .int 5 0, .str "/claim/cut.py" 202]), #[]⟩,
  ⟨.type "frame", none, .plain, #[(some (.ref 27)), (some (.ref 3)), (some (.ref 24)), none, (some (.str "outlinemill.errors" 194)), none, (some (.ref 0))]⟩,
  ⟨.type "tuple", none, (.seq #[] 0), #[]⟩,
  ⟨.none, none, (.fields #[]), #[]⟩,
  ⟨.type "tuple", none, (.seq #[.str "self" 211, .str "message" 212] 0), #[]⟩,
  ⟨.type "tuple", none, (.seq #[] 0), #[]⟩,
  ⟨.none, none, (.func ⟨"__init__", "MillError.__init__", (dOf 2 0).1, .stmts (dOf 2 0).2.1, (dOf 2 0).2.2, 0, [], .none, .none, .none, .none, none, .none, .none, 0⟩), #[]⟩,
  ⟨.type "code", none, (.fields #[.str "__init__" 208, .str "MillError.__init__" 209, .str "/claim/cut.py" 210, .int 7 0, .int 2 0, .int 0 0, .int 0 0, .int 3 0, .ref 29, .bool true, .int 181 0, .ref 30, .none, .ref 31, .ref 32, .ref 33, .int 213 0, .int 7 0, .str "/claim/cut.py" 214]), #[]⟩,
  ⟨.type "function", none, (.func ⟨"__init__", "MillError.__init__", (dOf 2 0).1, .stmts (dOf 2 0).2.1, (dOf 2 0).2.2, 3, [], .none, .none, .none, .str "outlinemill.errors" 194, none, .ref 34, .none, 0⟩), #[]⟩,
  ⟨.type "tuple", none, (.seq #[.str "message" 216] 0), #[]⟩,
  ⟨.type "dict", none, (.dict #[⟨PyData.keyHash P "__module__", .str "__module__" 203, .str "outlinemill.errors" 194⟩, ⟨PyData.keyHash P "__firstlineno__", .str "__firstlineno__" 207, .int 5 206⟩, ⟨PyData.keyHash P "__init__", .str "__init__" 215, .ref 35⟩, ⟨PyData.keyHash P "__static_attributes__", .str "__static_attributes__" 217, .ref 36⟩, ⟨PyData.keyHash P "__weakref__", .str "__weakref__" 219, .ref 39⟩, ⟨PyData.keyHash P "__doc__", .str "__doc__" 220, .none⟩] 3), #[]⟩,
  x38,
  ⟨.type "getset_descriptor", none, (.fields #[.str "__weakref__" 218, .ref 38, .builtin "ExceptionGroup.__weakref__", .none]), #[]⟩,
  ⟨.type "super", none, (.fields #[.ref 38, .ref 38, .ref 38]), #[]⟩,
  ⟨.type "builtin_function_or_method", none, (.fields #[.builtin "object.__init_subclass__", .ref 38]), #[]⟩]
noncomputable def ob2 (P : Params) : List Obj := [
  ⟨.type "tuple", none, (.seq #[.ref 38] 0), #[]⟩,
  ⟨.type "builtin_function_or_method", none, (.fields #[.builtin "type.__prepare__", .type "type"]), #[]⟩,
  ⟨.type "dict", none, (.dict #[⟨PyData.keyHash P "__module__", .str "__module__" 232, .str "outlinemill.errors" 194⟩, ⟨PyData.keyHash P "__qualname__", .str "__qualname__" 234, .str "NumberFault" 233⟩, ⟨PyData.keyHash P "__firstlineno__", .str "__firstlineno__" 236, .int 9 235⟩, ⟨PyData.keyHash P "__static_attributes__", .str "__static_attributes__" 237, .ref 49⟩] 4), #[]⟩,
  ⟨.type "tuple", none, (.seq #[] 0), #[]⟩,
  ⟨.none, none, (.fields #[]), #[]⟩,
  ⟨.type "code", none, (.fields #[.str "NumberFault" 227, .str "NumberFault" 228, .str "/claim/cut.py" 229, .int 9 0, .int 0 0, .int 0 0, .int 0 0, .int 0 0, .ref 45, .bool false, .int 181 0, .ref 46, .none, .none, .none, .none, .int 230 0, .int 9 0, .str "/claim/cut.py" 231]), #[]⟩,
  ⟨.type "frame", none, .plain, #[(some (.ref 47)), (some (.ref 3)), (some (.ref 44)), none, (some (.str "outlinemill.errors" 194)), none, (some (.ref 0))]⟩,
  ⟨.type "tuple", none, (.seq #[] 0), #[]⟩,
  ⟨.type "dict", none, (.dict #[⟨PyData.keyHash P "__module__", .str "__module__" 232, .str "outlinemill.errors" 194⟩, ⟨PyData.keyHash P "__firstlineno__", .str "__firstlineno__" 236, .int 9 235⟩, ⟨PyData.keyHash P "__static_attributes__", .str "__static_attributes__" 237, .ref 49⟩, ⟨PyData.keyHash P "__doc__", .str "__doc__" 238, .none⟩] 2), #[]⟩,
  ⟨.type "type", none, (.cls ⟨"NumberFault", [.ref 38], [.ref 51, .ref 38, .type "Exception", .type "BaseException", .type "object"], 50, "NumberFault", true, [], [], false, none, false⟩), #[(some (.ref 42)), none, (some (.str "NumberFault" 225)), (some (.str "NumberFault" 233)), (some (.builtin "Exception.__new__")), (some (.bool true))]⟩,
  ⟨.type "super", none, (.fields #[.ref 51, .ref 51, .ref 51]), #[]⟩,
  ⟨.type "builtin_function_or_method", none, (.fields #[.builtin "object.__init_subclass__", .ref 51]), #[]⟩,
  ⟨.type "tuple", none, (.seq #[.ref 38] 0), #[]⟩,
  ⟨.type "builtin_function_or_method", none, (.fields #[.builtin "type.__prepare__", .type "type"]), #[]⟩,
  ⟨.type "dict", none, (.dict #[⟨PyData.keyHash P "__module__", .str "__module__" 248, .str "outlinemill.errors" 194⟩, ⟨PyData.keyHash P "__qualname__", .str "__qualname__" 250, .str "SheetFault" 249⟩, ⟨PyData.keyHash P "__firstlineno__", .str "__firstlineno__" 252, .int 11 251⟩, ⟨PyData.keyHash P "__static_attributes__", .str "__static_attributes__" 253, .ref 61⟩] 4), #[]⟩,
  ⟨.type "tuple", none, (.seq #[] 0), #[]⟩,
  ⟨.none, none, (.fields #[]), #[]⟩,
  ⟨.type "code", none, (.fields #[.str "SheetFault" 243, .str "SheetFault" 244, .str "/claim/cut.py" 245, .int 11 0, .int 0 0, .int 0 0, .int 0 0, .int 0 0, .ref 57, .bool false, .int 181 0, .ref 58, .none, .none, .none, .none, .int 246 0, .int 11 0, .str "/claim/cut.py" 247]), #[]⟩,
  ⟨.type "frame", none, .plain, #[(some (.ref 59)), (some (.ref 3)), (some (.ref 56)), none, (some (.str "outlinemill.errors" 194)), none, (some (.ref 0))]⟩,
  ⟨.type "tuple", none, (.seq #[] 0), #[]⟩,
  ⟨.type "dict", none, (.dict #[⟨PyData.keyHash P "__module__", .str "__module__" 248, .str "outlinemill.errors" 194⟩, ⟨PyData.keyHash P "__firstlineno__", .str "__firstlineno__" 252, .int 11 251⟩, ⟨PyData.keyHash P "__static_attributes__", .str "__static_attributes__" 253, .ref 61⟩, ⟨PyData.keyHash P "__doc__", .str "__doc__" 254, .none⟩] 2), #[]⟩,
  ⟨.type "type", none, (.cls ⟨"SheetFault", [.ref 38], [.ref 63, .ref 38, .type "Exception", .type "BaseException", .type "object"], 62, "SheetFault", true, [], [], false, none, false⟩), #[(some (.ref 54)), none, (some (.str "SheetFault" 241)), (some (.str "SheetFault" 249)), (some (.builtin "Exception.__new__")), (some (.bool true))]⟩,
  ⟨.type "super", none, (.fields #[.ref 63, .ref 63, .ref 63]), #[]⟩,
  ⟨.type "builtin_function_or_method", none, (.fields #[.builtin "object.__init_subclass__", .ref 63]), #[]⟩]
noncomputable def ob3 (P : Params) : List Obj := [
  ⟨.type "tuple", none, (.seq #[] 0), #[]⟩,
  ⟨.none, none, (.fields #[]), #[]⟩,
  ⟨.type "tuple", none, (.seq #[.str "one" 262, .str "other" 263, .str "first" 264, .str "second" 265] 0), #[]⟩,
  ⟨.type "tuple", none, (.seq #[] 0), #[]⟩,
  ⟨.none, none, (.func ⟨"common_divisor", "common_divisor", (dOf 6 0).1, .stmts (dOf 6 0).2.1, (dOf 6 0).2.2, 0, [], .none, .none, .none, .none, none, .none, .none, 0⟩), #[]⟩,
  ⟨.type "code", none, (.fields #[.str "common_divisor" 259, .str "common_divisor" 260, .str "/claim/cut.py" 261, .int 14 0, .int 2 0, .int 0 0, .int 0 0, .int 3 0, .ref 66, .bool true, .int 181 0, .ref 67, .none, .ref 68, .ref 69, .ref 70, .int 266 0, .int 14 0, .str "/claim/cut.py" 267]), #[]⟩,
  ⟨.type "function", none, (.func ⟨"common_divisor", "common_divisor", (dOf 6 0).1, .stmts (dOf 6 0).2.1, (dOf 6 0).2.2, 3, [], .none, .none, .none, .str "outlinemill.exact" 257, none, .ref 71, .none, 0⟩), #[]⟩,
  ⟨.type "tuple", none, (.seq #[.int 1 269] 0), #[]⟩,
  ⟨.type "tuple", none, (.seq #[] 0), #[]⟩,
  ⟨.none, none, (.fields #[]), #[]⟩,
  ⟨.type "tuple", none, (.seq #[.str "top" 273, .str "bottom" 274, .str "common" 275] 0), #[]⟩,
  ⟨.type "tuple", none, (.seq #[] 0), #[]⟩,
  ⟨.none, none, (.func ⟨"fraction", "fraction", (dOf 7 0).1, .stmts (dOf 7 0).2.1, (dOf 7 0).2.2, 0, [], .none, .none, .none, .none, none, .none, .none, 0⟩), #[]⟩,
  ⟨.type "code", none, (.fields #[.str "fraction" 270, .str "fraction" 271, .str "/claim/cut.py" 272, .int 19 0, .int 2 0, .int 0 0, .int 0 0, .int 3 0, .ref 74, .bool true, .int 181 0, .ref 75, .none, .ref 76, .ref 77, .ref 78, .int 276 0, .int 19 0, .str "/claim/cut.py" 277]), #[]⟩,
  ⟨.type "function", none, (.func ⟨"fraction", "fraction", (dOf 7 0).1, .stmts (dOf 7 0).2.1, (dOf 7 0).2.2, 3, [], .ref 73, .none, .none, .str "outlinemill.exact" 257, none, .ref 79, .none, 0⟩), #[]⟩,
  ⟨.type "tuple", none, (.seq #[] 0), #[]⟩,
  ⟨.none, none, (.fields #[]), #[]⟩,
  ⟨.type "tuple", none, (.seq #[.str "a" 282, .str "b" 283] 0), #[]⟩,
  ⟨.type "tuple", none, (.seq #[] 0), #[]⟩,
  ⟨.none, none, (.func ⟨"plus", "plus", (dOf 8 0).1, .stmts (dOf 8 0).2.1, (dOf 8 0).2.2, 0, [], .none, .none, .none, .none, none, .none, .none, 0⟩), #[]⟩,
  ⟨.type "code", none, (.fields #[.str "plus" 279, .str "plus" 280, .str "/claim/cut.py" 281, .int 26 0, .int 2 0, .int 0 0, .int 0 0, .int 3 0, .ref 81, .bool true, .int 181 0, .ref 82, .none, .ref 83, .ref 84, .ref 85, .int 284 0, .int 26 0, .str "/claim/cut.py" 285]), #[]⟩,
  ⟨.type "function", none, (.func ⟨"plus", "plus", (dOf 8 0).1, .stmts (dOf 8 0).2.1, (dOf 8 0).2.2, 3, [], .none, .none, .none, .str "outlinemill.exact" 257, none, .ref 86, .none, 0⟩), #[]⟩,
  ⟨.type "tuple", none, (.seq #[] 0), #[]⟩,
  ⟨.none, none, (.fields #[]), #[]⟩,
  ⟨.type "tuple", none, (.seq #[.str "a" 290, .str "b" 291] 0), #[]⟩,
  ⟨.type "tuple", none, (.seq #[] 0), #[]⟩,
  ⟨.none, none, (.func ⟨"minus", "minus", (dOf 9 0).1, .stmts (dOf 9 0).2.1, (dOf 9 0).2.2, 0, [], .none, .none, .none, .none, none, .none, .none, 0⟩), #[]⟩,
  ⟨.type "code", none, (.fields #[.str "minus" 287, .str "minus" 288, .str "/claim/cut.py" 289, .int 28 0, .int 2 0, .int 0 0, .int 0 0, .int 3 0, .ref 88, .bool true, .int 181 0, .ref 89, .none, .ref 90, .ref 91, .ref 92, .int 292 0, .int 28 0, .str "/claim/cut.py" 293]), #[]⟩,
  ⟨.type "function", none, (.func ⟨"minus", "minus", (dOf 9 0).1, .stmts (dOf 9 0).2.1, (dOf 9 0).2.2, 3, [], .none, .none, .none, .str "outlinemill.exact" 257, none, .ref 93, .none, 0⟩), #[]⟩,
  ⟨.type "tuple", none, (.seq #[] 0), #[]⟩,
  ⟨.none, none, (.fields #[]), #[]⟩,
  ⟨.type "tuple", none, (.seq #[.str "a" 298, .str "b" 299] 0), #[]⟩,
  ⟨.type "tuple", none, (.seq #[] 0), #[]⟩,
  ⟨.none, none, (.func ⟨"times", "times", (dOf 10 0).1, .stmts (dOf 10 0).2.1, (dOf 10 0).2.2, 0, [], .none, .none, .none, .none, none, .none, .none, 0⟩), #[]⟩,
  ⟨.type "code", none, (.fields #[.str "times" 295, .str "times" 296, .str "/claim/cut.py" 297, .int 30 0, .int 2 0, .int 0 0, .int 0 0, .int 3 0, .ref 95, .bool true, .int 181 0, .ref 96, .none, .ref 97, .ref 98, .ref 99, .int 300 0, .int 30 0, .str "/claim/cut.py" 301]), #[]⟩,
  ⟨.type "function", none, (.func ⟨"times", "times", (dOf 10 0).1, .stmts (dOf 10 0).2.1, (dOf 10 0).2.2, 3, [], .none, .none, .none, .str "outlinemill.exact" 257, none, .ref 100, .none, 0⟩), #[]⟩,
  ⟨.type "tuple", none, (.seq #[] 0), #[]⟩,
  ⟨.none, none, (.fields #[]), #[]⟩,
  ⟨.type "tuple", none, (.seq #[.str "a" 306, .str "b" 307] 0), #[]⟩,
  ⟨.type "tuple", none, (.seq #[] 0), #[]⟩,
  ⟨.none, none, (.func ⟨"divided", "divided", (dOf 11 0).1, .stmts (dOf 11 0).2.1, (dOf 11 0).2.2, 0, [], .none, .none, .none, .none, none, .none, .none, 0⟩), #[]⟩,
  ⟨.type "code", none, (.fields #[.str "divided" 303, .str "divided" 304, .str "/claim/cut.py" 305, .int 32 0, .int 2 0, .int 0 0, .int 0 0, .int 3 0, .ref 102, .bool true, .int 181 0, .ref 103, .none, .ref 104, .ref 105, .ref 106, .int 308 0, .int 32 0, .str "/claim/cut.py" 309]), #[]⟩,
  ⟨.type "function", none, (.func ⟨"divided", "divided", (dOf 11 0).1, .stmts (dOf 11 0).2.1, (dOf 11 0).2.2, 3, [], .none, .none, .none, .str "outlinemill.exact" 257, none, .ref 107, .none, 0⟩), #[]⟩,
  ⟨.type "tuple", none, (.seq #[] 0), #[]⟩,
  ⟨.none, none, (.fields #[]), #[]⟩,
  ⟨.type "tuple", none, (.seq #[.str "a" 314] 0), #[]⟩,
  ⟨.type "tuple", none, (.seq #[] 0), #[]⟩,
  ⟨.none, none, (.func ⟨"negated", "negated", (dOf 12 0).1, .stmts (dOf 12 0).2.1, (dOf 12 0).2.2, 0, [], .none, .none, .none, .none, none, .none, .none, 0⟩), #[]⟩,
  ⟨.type "code", none, (.fields #[.str "negated" 311, .str "negated" 312, .str "/claim/cut.py" 313, .int 36 0, .int 1 0, .int 0 0, .int 0 0, .int 3 0, .ref 109, .bool true, .int 181 0, .ref 110, .none, .ref 111, .ref 112, .ref 113, .int 315 0, .int 36 0, .str "/claim/cut.py" 316]), #[]⟩,
  ⟨.type "function", none, (.func ⟨"negated", "negated", (dOf 12 0).1, .stmts (dOf 12 0).2.1, (dOf 12 0).2.2, 3, [], .none, .none, .none, .str "outlinemill.exact" 257, none, .ref 114, .none, 0⟩), #[]⟩,
  ⟨.type "tuple", none, (.seq #[] 0), #[]⟩,
  ⟨.none, none, (.fields #[]), #[]⟩,
  ⟨.type "tuple", none, (.seq #[.str "a" 321] 0), #[]⟩,
  ⟨.type "tuple", none, (.seq #[] 0), #[]⟩,
  ⟨.none, none, (.func ⟨"sign_of", "sign_of", (dOf 13 0).1, .stmts (dOf 13 0).2.1, (dOf 13 0).2.2, 0, [], .none, .none, .none, .none, none, .none, .none, 0⟩), #[]⟩,
  ⟨.type "code", none, (.fields #[.str "sign_of" 318, .str "sign_of" 319, .str "/claim/cut.py" 320, .int 38 0, .int 1 0, .int 0 0, .int 0 0, .int 3 0, .ref 116, .bool true, .int 181 0, .ref 117, .none, .ref 118, .ref 119, .ref 120, .int 322 0, .int 38 0, .str "/claim/cut.py" 323]), #[]⟩,
  ⟨.type "function", none, (.func ⟨"sign_of", "sign_of", (dOf 13 0).1, .stmts (dOf 13 0).2.1, (dOf 13 0).2.2, 3, [], .none, .none, .none, .str "outlinemill.exact" 257, none, .ref 121, .none, 0⟩), #[]⟩,
  ⟨.type "tuple", none, (.seq #[] 0), #[]⟩,
  ⟨.none, none, (.fields #[]), #[]⟩,
  ⟨.type "tuple", none, (.seq #[.str "a" 328, .str "b" 329] 0), #[]⟩,
  ⟨.type "tuple", none, (.seq #[] 0), #[]⟩,
  ⟨.none, none, (.func ⟨"compare", "compare", (dOf 14 0).1, .stmts (dOf 14 0).2.1, (dOf 14 0).2.2, 0, [], .none, .none, .none, .none, none, .none, .none, 0⟩), #[]⟩,
  ⟨.type "code", none, (.fields #[.str "compare" 325, .str "compare" 326, .str "/claim/cut.py" 327, .int 44 0, .int 2 0, .int 0 0, .int 0 0, .int 3 0, .ref 123, .bool true, .int 181 0, .ref 124, .none, .ref 125, .ref 126, .ref 127, .int 330 0, .int 44 0, .str "/claim/cut.py" 331]), #[]⟩,
  ⟨.type "function", none, (.func ⟨"compare", "compare", (dOf 14 0).1, .stmts (dOf 14 0).2.1, (dOf 14 0).2.2, 3, [], .none, .none, .none, .str "outlinemill.exact" 257, none, .ref 128, .none, 0⟩), #[]⟩,
  ⟨.type "tuple", none, (.seq #[] 0), #[]⟩,
  ⟨.none, none, (.fields #[]), #[]⟩,
  ⟨.type "tuple", none, (.seq #[.str "n" 336, .str "found" 337, .str "lower" 338] 0), #[]⟩,
  ⟨.type "tuple", none, (.seq #[] 0), #[]⟩,
  ⟨.none, none, (.func ⟨"root_floor", "root_floor", (dOf 15 0).1, .stmts (dOf 15 0).2.1, (dOf 15 0).2.2, 0, [], .none, .none, .none, .none, none, .none, .none, 0⟩), #[]⟩,
  ⟨.type "code", none, (.fields #[.str "root_floor" 333, .str "root_floor" 334, .str "/claim/cut.py" 335, .int 46 0, .int 1 0, .int 0 0, .int 0 0, .int 3 0, .ref 130, .bool true, .int 181 0, .ref 131, .none, .ref 132, .ref 133, .ref 134, .int 339 0, .int 46 0, .str "/claim/cut.py" 340]), #[]⟩,
  ⟨.type "function", none, (.func ⟨"root_floor", "root_floor", (dOf 15 0).1, .stmts (dOf 15 0).2.1, (dOf 15 0).2.2, 3, [], .none, .none, .none, .str "outlinemill.exact" 257, none, .ref 135, .none, 0⟩), #[]⟩]
noncomputable def ob4 (P : Params) : List Obj := [
  ⟨.type "tuple", none, (.seq #[] 0), #[]⟩,
  ⟨.type "builtin_function_or_method", none, (.fields #[.builtin "type.__prepare__", .type "type"]), #[]⟩,
  ⟨.type "dict", none, (.dict #[⟨PyData.keyHash P "__module__", .str "__module__" 351, .str "outlinemill.matrix" 342⟩, ⟨PyData.keyHash P "__qualname__", .str "__qualname__" 353, .str "Matrix" 352⟩, ⟨PyData.keyHash P "__firstlineno__", .str "__firstlineno__" 355, .int 60 354⟩, ⟨PyData.keyHash P "__init__", .str "__init__" 368, .ref 150⟩, ⟨PyData.keyHash P "row", .str "row" 375, .ref 157⟩, ⟨PyData.keyHash P "vector", .str "vector" 385, .ref 164⟩, ⟨PyData.keyHash P "point", .str "point" 395, .ref 171⟩, ⟨PyData.keyHash P "then", .str "then" 403, .ref 178⟩, ⟨PyData.keyHash P "determinant", .str "determinant" 410, .ref 185⟩, ⟨PyData.keyHash P "inverse", .str "inverse" 417, .ref 192⟩, ⟨PyData.keyHash P "__static_attributes__", .str "__static_attributes__" 424, .ref 193⟩] 11), #[]⟩,
  ⟨.type "tuple", none, (.seq #[] 0), #[]⟩,
  ⟨.none, none, (.fields #[.int 62 0, .int 4 0, .ref 149, .int 70 0, .int 4 0, .ref 156, .int 73 0, .int 4 0, .ref 163, .int 77 0, .int 4 0, .ref 170, .int 81 0, .int 4 0, .ref 177, .int 84 0, .int 4 0, .ref 184, .int 87 0, .int 4 0, .ref 191]), #[]⟩,
  ⟨.type "code", none, (.fields #[.str "Matrix" 346, .str "Matrix" 347, .str "/claim/cut.py" 348, .int 60 0, .int 0 0, .int 0 0, .int 0 0, .int 0 0, .ref 140, .bool false, .int 181 0, .ref 141, .none, .none, .none, .none, .int 349 0, .int 60 0, .str "/claim/cut.py" 350]), #[]⟩,
  ⟨.type "frame", none, .plain, #[(some (.ref 142)), (some (.ref 3)), (some (.ref 139)), none, (some (.str "outlinemill.matrix" 342)), none, (some (.ref 0))]⟩,
  ⟨.type "tuple", none, (.seq #[] 0), #[]⟩,
  ⟨.none, none, (.fields #[]), #[]⟩,
  ⟨.type "tuple", none, (.seq #[.str "self" 359, .str "a" 360, .str "b" 361, .str "c" 362, .str "d" 363, .str "e" 364, .str "f" 365] 0), #[]⟩,
  ⟨.type "tuple", none, (.seq #[] 0), #[]⟩,
  ⟨.none, none, (.func ⟨"__init__", "Matrix.__init__", (dOf 17 0).1, .stmts (dOf 17 0).2.1, (dOf 17 0).2.2, 0, [], .none, .none, .none, .none, none, .none, .none, 0⟩), #[]⟩,
  ⟨.type "code", none, (.fields #[.str "__init__" 356, .str "Matrix.__init__" 357, .str "/claim/cut.py" 358, .int 62 0, .int 7 0, .int 0 0, .int 0 0, .int 3 0, .ref 144, .bool true, .int 181 0, .ref 145, .none, .ref 146, .ref 147, .ref 148, .int 366 0, .int 62 0, .str "/claim/cut.py" 367]), #[]⟩,
  ⟨.type "function", none, (.func ⟨"__init__", "Matrix.__init__", (dOf 17 0).1, .stmts (dOf 17 0).2.1, (dOf 17 0).2.2, 3, [], .none, .none, .none, .str "outlinemill.matrix" 342, none, .ref 149, .none, 0⟩), #[]⟩,
  ⟨.type "tuple", none, (.seq #[] 0), #[]⟩,
  ⟨.none, none, (.fields #[]), #[]⟩,
  ⟨.type "tuple", none, (.seq #[.str "self" 372] 0), #[]⟩,
  ⟨.type "tuple", none, (.seq #[] 0), #[]⟩,
  ⟨.none, none, (.func ⟨"row", "Matrix.row", (dOf 17 1).1, .stmts (dOf 17 1).2.1, (dOf 17 1).2.2, 0, [], .none, .none, .none, .none, none, .none, .none, 0⟩), #[]⟩,
  ⟨.type "code", none, (.fields #[.str "row" 369, .str "Matrix.row" 370, .str "/claim/cut.py" 371, .int 70 0, .int 1 0, .int 0 0, .int 0 0, .int 3 0, .ref 151, .bool true, .int 181 0, .ref 152, .none, .ref 153, .ref 154, .ref 155, .int 373 0, .int 70 0, .str "/claim/cut.py" 374]), #[]⟩,
  ⟨.type "function", none, (.func ⟨"row", "Matrix.row", (dOf 17 1).1, .stmts (dOf 17 1).2.1, (dOf 17 1).2.2, 3, [], .none, .none, .none, .str "outlinemill.matrix" 342, none, .ref 156, .none, 0⟩), #[]⟩,
  ⟨.type "tuple", none, (.seq #[] 0), #[]⟩,
  ⟨.none, none, (.fields #[]), #[]⟩,
  ⟨.type "tuple", none, (.seq #[.str "self" 379, .str "p" 380, .str "x" 381, .str "y" 382] 0), #[]⟩,
  ⟨.type "tuple", none, (.seq #[] 0), #[]⟩,
  ⟨.none, none, (.func ⟨"vector", "Matrix.vector", (dOf 17 2).1, .stmts (dOf 17 2).2.1, (dOf 17 2).2.2, 0, [], .none, .none, .none, .none, none, .none, .none, 0⟩), #[]⟩,
  ⟨.type "code", none, (.fields #[.str "vector" 376, .str "Matrix.vector" 377, .str "/claim/cut.py" 378, .int 73 0, .int 2 0, .int 0 0, .int 0 0, .int 3 0, .ref 158, .bool true, .int 181 0, .ref 159, .none, .ref 160, .ref 161, .ref 162, .int 383 0, .int 73 0, .str "/claim/cut.py" 384]), #[]⟩,
  ⟨.type "function", none, (.func ⟨"vector", "Matrix.vector", (dOf 17 2).1, .stmts (dOf 17 2).2.1, (dOf 17 2).2.2, 3, [], .none, .none, .none, .str "outlinemill.matrix" 342, none, .ref 163, .none, 0⟩), #[]⟩,
  ⟨.type "tuple", none, (.seq #[] 0), #[]⟩,
  ⟨.none, none, (.fields #[]), #[]⟩,
  ⟨.type "tuple", none, (.seq #[.str "self" 389, .str "p" 390, .str "x" 391, .str "y" 392] 0), #[]⟩,
  ⟨.type "tuple", none, (.seq #[] 0), #[]⟩,
  ⟨.none, none, (.func ⟨"point", "Matrix.point", (dOf 17 3).1, .stmts (dOf 17 3).2.1, (dOf 17 3).2.2, 0, [], .none, .none, .none, .none, none, .none, .none, 0⟩), #[]⟩,
  ⟨.type "code", none, (.fields #[.str "point" 386, .str "Matrix.point" 387, .str "/claim/cut.py" 388, .int 77 0, .int 2 0, .int 0 0, .int 0 0, .int 3 0, .ref 165, .bool true, .int 181 0, .ref 166, .none, .ref 167, .ref 168, .ref 169, .int 393 0, .int 77 0, .str "/claim/cut.py" 394]), #[]⟩,
  ⟨.type "function", none, (.func ⟨"point", "Matrix.point", (dOf 17 3).1, .stmts (dOf 17 3).2.1, (dOf 17 3).2.2, 3, [], .none, .none, .none, .str "outlinemill.matrix" 342, none, .ref 170, .none, 0⟩), #[]⟩,
  ⟨.type "tuple", none, (.seq #[] 0), #[]⟩,
  ⟨.none, none, (.fields #[]), #[]⟩,
  ⟨.type "tuple", none, (.seq #[.str "self" 399, .str "other" 400] 0), #[]⟩,
  ⟨.type "tuple", none, (.seq #[] 0), #[]⟩,
  ⟨.none, none, (.func ⟨"then", "Matrix.then", (dOf 17 4).1, .stmts (dOf 17 4).2.1, (dOf 17 4).2.2, 0, [], .none, .none, .none, .none, none, .none, .none, 0⟩), #[]⟩,
  ⟨.type "code", none, (.fields #[.str "then" 396, .str "Matrix.then" 397, .str "/claim/cut.py" 398, .int 81 0, .int 2 0, .int 0 0, .int 0 0, .int 3 0, .ref 172, .bool true, .int 181 0, .ref 173, .none, .ref 174, .ref 175, .ref 176, .int 401 0, .int 81 0, .str "/claim/cut.py" 402]), #[]⟩,
  ⟨.type "function", none, (.func ⟨"then", "Matrix.then", (dOf 17 4).1, .stmts (dOf 17 4).2.1, (dOf 17 4).2.2, 3, [], .none, .none, .none, .str "outlinemill.matrix" 342, none, .ref 177, .none, 0⟩), #[]⟩,
  ⟨.type "tuple", none, (.seq #[] 0), #[]⟩,
  ⟨.none, none, (.fields #[]), #[]⟩,
  ⟨.type "tuple", none, (.seq #[.str "self" 407] 0), #[]⟩,
  ⟨.type "tuple", none, (.seq #[] 0), #[]⟩,
  ⟨.none, none, (.func ⟨"determinant", "Matrix.determinant", (dOf 17 5).1, .stmts (dOf 17 5).2.1, (dOf 17 5).2.2, 0, [], .none, .none, .none, .none, none, .none, .none, 0⟩), #[]⟩,
  ⟨.type "code", none, (.fields #[.str "determinant" 404, .str "Matrix.determinant" 405, .str "/claim/cut.py" 406, .int 84 0, .int 1 0, .int 0 0, .int 0 0, .int 3 0, .ref 179, .bool true, .int 181 0, .ref 180, .none, .ref 181, .ref 182, .ref 183, .int 408 0, .int 84 0, .str "/claim/cut.py" 409]), #[]⟩,
  ⟨.type "function", none, (.func ⟨"determinant", "Matrix.determinant", (dOf 17 5).1, .stmts (dOf 17 5).2.1, (dOf 17 5).2.2, 3, [], .none, .none, .none, .str "outlinemill.matrix" 342, none, .ref 184, .none, 0⟩), #[]⟩,
  ⟨.type "tuple", none, (.seq #[] 0), #[]⟩,
  ⟨.none, none, (.fields #[]), #[]⟩,
  ⟨.type "tuple", none, (.seq #[.str "self" 414] 0), #[]⟩,
  ⟨.type "tuple", none, (.seq #[] 0), #[]⟩,
  ⟨.none, none, (.func ⟨"inverse", "Matrix.inverse", (dOf 17 6).1, .stmts (dOf 17 6).2.1, (dOf 17 6).2.2, 0, [], .none, .none, .none, .none, none, .none, .none, 0⟩), #[]⟩,
  ⟨.type "code", none, (.fields #[.str "inverse" 411, .str "Matrix.inverse" 412, .str "/claim/cut.py" 413, .int 87 0, .int 1 0, .int 0 0, .int 0 0, .int 3 0, .ref 186, .bool true, .int 181 0, .ref 187, .none, .ref 188, .ref 189, .ref 190, .int 415 0, .int 87 0, .str "/claim/cut.py" 416]), #[]⟩,
  ⟨.type "function", none, (.func ⟨"inverse", "Matrix.inverse", (dOf 17 6).1, .stmts (dOf 17 6).2.1, (dOf 17 6).2.2, 3, [], .none, .none, .none, .str "outlinemill.matrix" 342, none, .ref 191, .none, 0⟩), #[]⟩,
  ⟨.type "tuple", none, (.seq #[.str "a" 418, .str "b" 419, .str "c" 420, .str "d" 421, .str "e" 422, .str "f" 423] 0), #[]⟩,
  ⟨.type "dict", none, (.dict #[⟨PyData.keyHash P "__module__", .str "__module__" 351, .str "outlinemill.matrix" 342⟩, ⟨PyData.keyHash P "__firstlineno__", .str "__firstlineno__" 355, .int 60 354⟩, ⟨PyData.keyHash P "__init__", .str "__init__" 368, .ref 150⟩, ⟨PyData.keyHash P "row", .str "row" 375, .ref 157⟩, ⟨PyData.keyHash P "vector", .str "vector" 385, .ref 164⟩, ⟨PyData.keyHash P "point", .str "point" 395, .ref 171⟩, ⟨PyData.keyHash P "then", .str "then" 403, .ref 178⟩, ⟨PyData.keyHash P "determinant", .str "determinant" 410, .ref 185⟩, ⟨PyData.keyHash P "inverse", .str "inverse" 417, .ref 192⟩, ⟨PyData.keyHash P "__static_attributes__", .str "__static_attributes__" 424, .ref 193⟩, ⟨PyData.keyHash P "__dict__", .str "__dict__" 426, .ref 196⟩, ⟨PyData.keyHash P "__weakref__", .str "__weakref__" 428, .ref 197⟩, ⟨PyData.keyHash P "__doc__", .str "__doc__" 429, .none⟩] 4), #[]⟩,
  ⟨.type "type", none, (.cls ⟨"Matrix", [.type "object"], [.ref 195, .type "object"], 194, "Matrix", true, [], [], false, none, false⟩), #[none, none, (some (.str "Matrix" 344)), (some (.str "Matrix" 352)), (some (.builtin "object.__new__")), (some (.bool true))]⟩,
  ⟨.type "getset_descriptor", none, (.fields #[.str "__dict__" 425, .ref 195, .builtin "function.__dict__", .builtin "function.__dict__#set"]), #[]⟩,
  ⟨.type "getset_descriptor", none, (.fields #[.str "__weakref__" 427, .ref 195, .builtin "ExceptionGroup.__weakref__", .none]), #[]⟩,
  ⟨.type "super", none, (.fields #[.ref 195, .ref 195, .ref 195]), #[]⟩,
  ⟨.type "builtin_function_or_method", none, (.fields #[.builtin "object.__init_subclass__", .ref 195]), #[]⟩]
noncomputable def ob5 (P : Params) : List Obj := [
  ⟨.type "tuple", none, (.seq #[] 0), #[]⟩,
  ⟨.type "builtin_function_or_method", none, (.fields #[.builtin "type.__prepare__", .type "type"]), #[]⟩,
  ⟨.type "dict", none, (.dict #[⟨PyData.keyHash P "__module__", .str "__module__" 441, .str "outlinemill.outlines" 432⟩, ⟨PyData.keyHash P "__qualname__", .str "__qualname__" 443, .str "Outline" 442⟩, ⟨PyData.keyHash P "__firstlineno__", .str "__firstlineno__" 445, .int 90 444⟩, ⟨PyData.keyHash P "__init__", .str "__init__" 455, .ref 214⟩, ⟨PyData.keyHash P "points", .str "points" 464, .ref 221⟩, ⟨PyData.keyHash P "ends", .str "ends" 474, .ref 228⟩, ⟨PyData.keyHash P "row", .str "row" 480, .ref 233⟩, ⟨PyData.keyHash P "box", .str "box" 487, .ref 240⟩, ⟨PyData.keyHash P "__static_attributes__", .str "__static_attributes__" 490, .ref 241⟩] 9), #[]⟩,
  ⟨.type "tuple", none, (.seq #[] 0), #[]⟩,
  ⟨.none, none, (.fields #[.int 92 0, .int 4 0, .ref 213, .int 96 0, .int 4 0, .ref 220, .int 102 0, .int 4 0, .ref 227, .int 110 0, .int 4 0, .ref 232, .int 113 0, .int 4 0, .ref 239]), #[]⟩,
  ⟨.type "code", none, (.fields #[.str "Outline" 436, .str "Outline" 437, .str "/claim/cut.py" 438, .int 90 0, .int 0 0, .int 0 0, .int 0 0, .int 0 0, .ref 203, .bool false, .int 181 0, .ref 204, .none, .none, .none, .none, .int 439 0, .int 90 0, .str "/claim/cut.py" 440]), #[]⟩,
  ⟨.type "frame", none, .plain, #[(some (.ref 205)), (some (.ref 3)), (some (.ref 202)), none, (some (.str "outlinemill.outlines" 432)), none, (some (.ref 0))]⟩,
  ⟨.type "tuple", none, (.seq #[.bytes #[] 446] 0), #[]⟩,
  ⟨.type "tuple", none, (.seq #[] 0), #[]⟩,
  ⟨.none, none, (.fields #[]), #[]⟩,
  ⟨.type "tuple", none, (.seq #[.str "self" 450, .str "contours" 451, .str "instructions" 452] 0), #[]⟩,
  ⟨.type "tuple", none, (.seq #[] 0), #[]⟩,
  ⟨.none, none, (.func ⟨"__init__", "Outline.__init__", (dOf 19 0).1, .stmts (dOf 19 0).2.1, (dOf 19 0).2.2, 0, [], .none, .none, .none, .none, none, .none, .none, 0⟩), #[]⟩,
  ⟨.type "code", none, (.fields #[.str "__init__" 447, .str "Outline.__init__" 448, .str "/claim/cut.py" 449, .int 92 0, .int 3 0, .int 0 0, .int 0 0, .int 3 0, .ref 208, .bool true, .int 181 0, .ref 209, .none, .ref 210, .ref 211, .ref 212, .int 453 0, .int 92 0, .str "/claim/cut.py" 454]), #[]⟩,
  ⟨.type "function", none, (.func ⟨"__init__", "Outline.__init__", (dOf 19 0).1, .stmts (dOf 19 0).2.1, (dOf 19 0).2.2, 3, [], .ref 207, .none, .none, .str "outlinemill.outlines" 432, none, .ref 213, .none, 0⟩), #[]⟩,
  ⟨.type "tuple", none, (.seq #[] 0), #[]⟩,
  ⟨.none, none, (.fields #[]), #[]⟩,
  ⟨.type "tuple", none, (.seq #[.str "self" 459, .str "found" 460, .str "contour" 461] 0), #[]⟩,
  ⟨.type "tuple", none, (.seq #[] 0), #[]⟩,
  ⟨.none, none, (.func ⟨"points", "Outline.points", (dOf 19 1).1, .stmts (dOf 19 1).2.1, (dOf 19 1).2.2, 0, [], .none, .none, .none, .none, none, .none, .none, 0⟩), #[]⟩,
  ⟨.type "code", none, (.fields #[.str "points" 456, .str "Outline.points" 457, .str "/claim/cut.py" 458, .int 96 0, .int 1 0, .int 0 0, .int 0 0, .int 3 0, .ref 215, .bool true, .int 181 0, .ref 216, .none, .ref 217, .ref 218, .ref 219, .int 462 0, .int 96 0, .str "/claim/cut.py" 463]), #[]⟩,
  ⟨.type "function", none, (.func ⟨"points", "Outline.points", (dOf 19 1).1, .stmts (dOf 19 1).2.1, (dOf 19 1).2.2, 3, [], .none, .none, .none, .str "outlinemill.outlines" 432, none, .ref 220, .none, 0⟩), #[]⟩,
  ⟨.type "tuple", none, (.seq #[] 0), #[]⟩,
  ⟨.none, none, (.fields #[]), #[]⟩,
  ⟨.type "tuple", none, (.seq #[.str "self" 468, .str "found" 469, .str "at" 470, .str "contour" 471] 0), #[]⟩,
  ⟨.type "tuple", none, (.seq #[] 0), #[]⟩,
  ⟨.none, none, (.func ⟨"ends", "Outline.ends", (dOf 19 2).1, .stmts (dOf 19 2).2.1, (dOf 19 2).2.2, 0, [], .none, .none, .none, .none, none, .none, .none, 0⟩), #[]⟩,
  ⟨.type "code", none, (.fields #[.str "ends" 465, .str "Outline.ends" 466, .str "/claim/cut.py" 467, .int 102 0, .int 1 0, .int 0 0, .int 0 0, .int 3 0, .ref 222, .bool true, .int 181 0, .ref 223, .none, .ref 224, .ref 225, .ref 226, .int 472 0, .int 102 0, .str "/claim/cut.py" 473]), #[]⟩,
  ⟨.type "function", none, (.func ⟨"ends", "Outline.ends", (dOf 19 2).1, .stmts (dOf 19 2).2.1, (dOf 19 2).2.2, 3, [], .none, .none, .none, .str "outlinemill.outlines" 432, none, .ref 227, .none, 0⟩), #[]⟩,
  ⟨.type "tuple", none, (.seq #[] 0), #[]⟩,
  ⟨.none, none, (.fields #[]), #[]⟩,
  ⟨.none, none, (.func ⟨"row", "Outline.row", (dOf 19 3).1, .stmts (dOf 19 3).2.1, (dOf 19 3).2.2, 0, [], .none, .none, .none, .none, none, .none, .none, 0⟩), #[]⟩,
  ⟨.type "code", none, (.fields #[.str "row" 475, .str "Outline.row" 476, .str "/claim/cut.py" 477, .int 110 0, .int 1 0, .int 0 0, .int 0 0, .int 3 0, .ref 229, .bool true, .int 181 0, .ref 230, .none, .none, .none, .ref 231, .int 478 0, .int 110 0, .str "/claim/cut.py" 479]), #[]⟩,
  ⟨.type "function", none, (.func ⟨"row", "Outline.row", (dOf 19 3).1, .stmts (dOf 19 3).2.1, (dOf 19 3).2.2, 3, [], .none, .none, .none, .str "outlinemill.outlines" 432, none, .ref 232, .none, 0⟩), #[]⟩,
  ⟨.type "tuple", none, (.seq #[] 0), #[]⟩,
  ⟨.none, none, (.fields #[]), #[]⟩,
  ⟨.type "tuple", none, (.seq #[.str "self" 484] 0), #[]⟩,
  ⟨.type "tuple", none, (.seq #[] 0), #[]⟩,
  ⟨.none, none, (.func ⟨"box", "Outline.box", (dOf 19 4).1, .stmts (dOf 19 4).2.1, (dOf 19 4).2.2, 0, [], .none, .none, .none, .none, none, .none, .none, 0⟩), #[]⟩,
  ⟨.type "code", none, (.fields #[.str "box" 481, .str "Outline.box" 482, .str "/claim/cut.py" 483, .int 113 0, .int 1 0, .int 0 0, .int 0 0, .int 3 0, .ref 234, .bool true, .int 181 0, .ref 235, .none, .ref 236, .ref 237, .ref 238, .int 485 0, .int 113 0, .str "/claim/cut.py" 486]), #[]⟩,
  ⟨.type "function", none, (.func ⟨"box", "Outline.box", (dOf 19 4).1, .stmts (dOf 19 4).2.1, (dOf 19 4).2.2, 3, [], .none, .none, .none, .str "outlinemill.outlines" 432, none, .ref 239, .none, 0⟩), #[]⟩,
  ⟨.type "tuple", none, (.seq #[.str "contours" 488, .str "instructions" 489] 0), #[]⟩,
  ⟨.type "dict", none, (.dict #[⟨PyData.keyHash P "__module__", .str "__module__" 441, .str "outlinemill.outlines" 432⟩, ⟨PyData.keyHash P "__firstlineno__", .str "__firstlineno__" 445, .int 90 444⟩, ⟨PyData.keyHash P "__init__", .str "__init__" 455, .ref 214⟩, ⟨PyData.keyHash P "points", .str "points" 464, .ref 221⟩, ⟨PyData.keyHash P "ends", .str "ends" 474, .ref 228⟩, ⟨PyData.keyHash P "row", .str "row" 480, .ref 233⟩, ⟨PyData.keyHash P "box", .str "box" 487, .ref 240⟩, ⟨PyData.keyHash P "__static_attributes__", .str "__static_attributes__" 490, .ref 241⟩, ⟨PyData.keyHash P "__dict__", .str "__dict__" 492, .ref 244⟩, ⟨PyData.keyHash P "__weakref__", .str "__weakref__" 494, .ref 245⟩, ⟨PyData.keyHash P "__doc__", .str "__doc__" 495, .none⟩] 4), #[]⟩,
  ⟨.type "type", none, (.cls ⟨"Outline", [.type "object"], [.ref 243, .type "object"], 242, "Outline", true, [], [], false, none, false⟩), #[none, none, (some (.str "Outline" 434)), (some (.str "Outline" 442)), (some (.builtin "object.__new__")), (some (.bool true))]⟩,
  ⟨.type "getset_descriptor", none, (.fields #[.str "__dict__" 491, .ref 243, .builtin "function.__dict__", .builtin "function.__dict__#set"]), #[]⟩,
  ⟨.type "getset_descriptor", none, (.fields #[.str "__weakref__" 493, .ref 243, .builtin "ExceptionGroup.__weakref__", .none]), #[]⟩,
  ⟨.type "super", none, (.fields #[.ref 243, .ref 243, .ref 243]), #[]⟩,
  ⟨.type "builtin_function_or_method", none, (.fields #[.builtin "object.__init_subclass__", .ref 243]), #[]⟩]
noncomputable def ob6 (P : Params) : List Obj := [
  ⟨.type "tuple", none, (.seq #[] 0), #[]⟩,
  ⟨.none, none, (.fields #[]), #[]⟩,
  ⟨.type "tuple", none, (.seq #[.str "point" 501] 0), #[]⟩,
  ⟨.type "tuple", none, (.seq #[] 0), #[]⟩,
  ⟨.none, none, (.func ⟨"spot", "spot", (dOf 20 0).1, .stmts (dOf 20 0).2.1, (dOf 20 0).2.2, 0, [], .none, .none, .none, .none, none, .none, .none, 0⟩), #[]⟩,
  ⟨.type "code", none, (.fields #[.str "spot" 498, .str "spot" 499, .str "/claim/cut.py" 500, .int 115 0, .int 1 0, .int 0 0, .int 0 0, .int 3 0, .ref 248, .bool true, .int 181 0, .ref 249, .none, .ref 250, .ref 251, .ref 252, .int 502 0, .int 115 0, .str "/claim/cut.py" 503]), #[]⟩,
  ⟨.type "function", none, (.func ⟨"spot", "spot", (dOf 20 0).1, .stmts (dOf 20 0).2.1, (dOf 20 0).2.2, 3, [], .none, .none, .none, .str "outlinemill.outlines" 432, none, .ref 253, .none, 0⟩), #[]⟩,
  ⟨.type "tuple", none, (.seq #[] 0), #[]⟩,
  ⟨.none, none, (.fields #[]), #[]⟩,
  ⟨.type "tuple", none, (.seq #[.str "one" 508, .str "other" 509] 0), #[]⟩,
  ⟨.type "tuple", none, (.seq #[] 0), #[]⟩,
  ⟨.none, none, (.func ⟨"middle", "middle", (dOf 21 0).1, .stmts (dOf 21 0).2.1, (dOf 21 0).2.2, 0, [], .none, .none, .none, .none, none, .none, .none, 0⟩), #[]⟩,
  ⟨.type "code", none, (.fields #[.str "middle" 505, .str "middle" 506, .str "/claim/cut.py" 507, .int 117 0, .int 2 0, .int 0 0, .int 0 0, .int 3 0, .ref 255, .bool true, .int 181 0, .ref 256, .none, .ref 257, .ref 258, .ref 259, .int 510 0, .int 117 0, .str "/claim/cut.py" 511]), #[]⟩,
  ⟨.type "function", none, (.func ⟨"middle", "middle", (dOf 21 0).1, .stmts (dOf 21 0).2.1, (dOf 21 0).2.2, 3, [], .none, .none, .none, .str "outlinemill.outlines" 432, none, .ref 260, .none, 0⟩), #[]⟩,
  ⟨.type "tuple", none, (.seq #[] 0), #[]⟩,
  ⟨.none, none, (.fields #[]), #[]⟩,
  ⟨.type "tuple", none, (.seq #[.str "contour" 516] 0), #[]⟩,
  ⟨.type "tuple", none, (.seq #[] 0), #[]⟩,
  ⟨.none, none, (.func ⟨"begin_of", "begin_of", (dOf 22 0).1, .stmts (dOf 22 0).2.1, (dOf 22 0).2.2, 0, [], .none, .none, .none, .none, none, .none, .none, 0⟩), #[]⟩,
  ⟨.type "code", none, (.fields #[.str "begin_of" 513, .str "begin_of" 514, .str "/claim/cut.py" 515, .int 119 0, .int 1 0, .int 0 0, .int 0 0, .int 3 0, .ref 262, .bool true, .int 181 0, .ref 263, .none, .ref 264, .ref 265, .ref 266, .int 517 0, .int 119 0, .str "/claim/cut.py" 518]), #[]⟩,
  ⟨.type "function", none, (.func ⟨"begin_of", "begin_of", (dOf 22 0).1, .stmts (dOf 22 0).2.1, (dOf 22 0).2.2, 3, [], .none, .none, .none, .str "outlinemill.outlines" 432, none, .ref 267, .none, 0⟩), #[]⟩,
  ⟨.type "tuple", none, (.seq #[] 0), #[]⟩,
  ⟨.none, none, (.fields #[]), #[]⟩,
  ⟨.type "tuple", none, (.seq #[.str "contour" 523, .str "start" 524, .str "points" 525, .str "found" 526, .str "control" 527, .str "point" 528] 0), #[]⟩,
  ⟨.type "tuple", none, (.seq #[] 0), #[]⟩,
  ⟨.none, none, (.func ⟨"contour_segments", "contour_segments", (dOf 23 0).1, .stmts (dOf 23 0).2.1, (dOf 23 0).2.2, 0, [], .none, .none, .none, .none, none, .none, .none, 0⟩), #[]⟩,
  ⟨.type "code", none, (.fields #[.str "contour_segments" 520, .str "contour_segments" 521, .str "/claim/cut.py" 522, .int 125 0, .int 1 0, .int 0 0, .int 0 0, .int 3 0, .ref 269, .bool true, .int 181 0, .ref 270, .none, .ref 271, .ref 272, .ref 273, .int 529 0, .int 125 0, .str "/claim/cut.py" 530]), #[]⟩,
  ⟨.type "function", none, (.func ⟨"contour_segments", "contour_segments", (dOf 23 0).1, .stmts (dOf 23 0).2.1, (dOf 23 0).2.2, 3, [], .none, .none, .none, .str "outlinemill.outlines" 432, none, .ref 274, .none, 0⟩), #[]⟩,
  ⟨.type "tuple", none, (.seq #[] 0), #[]⟩,
  ⟨.none, none, (.fields #[]), #[]⟩,
  ⟨.type "tuple", none, (.seq #[.str "outline" 535, .str "found" 536, .str "contour" 537] 0), #[]⟩,
  ⟨.type "tuple", none, (.seq #[] 0), #[]⟩,
  ⟨.none, none, (.func ⟨"segments_of", "segments_of", (dOf 24 0).1, .stmts (dOf 24 0).2.1, (dOf 24 0).2.2, 0, [], .none, .none, .none, .none, none, .none, .none, 0⟩), #[]⟩,
  ⟨.type "code", none, (.fields #[.str "segments_of" 532, .str "segments_of" 533, .str "/claim/cut.py" 534, .int 141 0, .int 1 0, .int 0 0, .int 0 0, .int 3 0, .ref 276, .bool true, .int 181 0, .ref 277, .none, .ref 278, .ref 279, .ref 280, .int 538 0, .int 141 0, .str "/claim/cut.py" 539]), #[]⟩,
  ⟨.type "function", none, (.func ⟨"segments_of", "segments_of", (dOf 24 0).1, .stmts (dOf 24 0).2.1, (dOf 24 0).2.2, 3, [], .none, .none, .none, .str "outlinemill.outlines" 432, none, .ref 281, .none, 0⟩), #[]⟩,
  ⟨.type "tuple", none, (.seq #[.str "start" 543, .str "middle" 544, .str "end" 545] 0), #[]⟩,
  ⟨.type "tuple", none, (.seq #[] 0), #[]⟩,
  ⟨.type "builtin_function_or_method", none, (.fields #[.builtin "type.__prepare__", .type "type"]), #[]⟩,
  ⟨.type "dict", none, (.dict #[⟨PyData.keyHash P "__module__", .str "__module__" 554, .str "outlinemill.text_line" 541⟩, ⟨PyData.keyHash P "__qualname__", .str "__qualname__" 556, .str "Letter" 555⟩, ⟨PyData.keyHash P "__firstlineno__", .str "__firstlineno__" 558, .int 149 557⟩, ⟨PyData.keyHash P "__init__", .str "__init__" 568, .ref 297⟩, ⟨PyData.keyHash P "__static_attributes__", .str "__static_attributes__" 572, .ref 298⟩] 5), #[]⟩,
  ⟨.type "tuple", none, (.seq #[] 0), #[]⟩,
  ⟨.none, none, (.fields #[.int 151 0, .int 4 0, .ref 296]), #[]⟩,
  ⟨.type "code", none, (.fields #[.str "Letter" 549, .str "Letter" 550, .str "/claim/cut.py" 551, .int 149 0, .int 0 0, .int 0 0, .int 0 0, .int 0 0, .ref 287, .bool false, .int 181 0, .ref 288, .none, .none, .none, .none, .int 552 0, .int 149 0, .str "/claim/cut.py" 553]), #[]⟩,
  ⟨.type "frame", none, .plain, #[(some (.ref 289)), (some (.ref 3)), (some (.ref 286)), none, (some (.str "outlinemill.text_line" 541)), none, (some (.ref 0))]⟩,
  ⟨.type "tuple", none, (.seq #[] 0), #[]⟩,
  ⟨.none, none, (.fields #[]), #[]⟩,
  ⟨.type "tuple", none, (.seq #[.str "self" 562, .str "glyph" 563, .str "advance" 564, .str "begin" 565] 0), #[]⟩,
  ⟨.type "tuple", none, (.seq #[] 0), #[]⟩,
  ⟨.none, none, (.func ⟨"__init__", "Letter.__init__", (dOf 27 0).1, .stmts (dOf 27 0).2.1, (dOf 27 0).2.2, 0, [], .none, .none, .none, .none, none, .none, .none, 0⟩), #[]⟩,
  ⟨.type "code", none, (.fields #[.str "__init__" 559, .str "Letter.__init__" 560, .str "/claim/cut.py" 561, .int 151 0, .int 4 0, .int 0 0, .int 0 0, .int 3 0, .ref 291, .bool true, .int 181 0, .ref 292, .none, .ref 293, .ref 294, .ref 295, .int 566 0, .int 151 0, .str "/claim/cut.py" 567]), #[]⟩,
  ⟨.type "function", none, (.func ⟨"__init__", "Letter.__init__", (dOf 27 0).1, .stmts (dOf 27 0).2.1, (dOf 27 0).2.2, 3, [], .none, .none, .none, .str "outlinemill.text_line" 541, none, .ref 296, .none, 0⟩), #[]⟩,
  ⟨.type "tuple", none, (.seq #[.str "advance" 569, .str "begin" 570, .str "glyph" 571] 0), #[]⟩,
  ⟨.type "dict", none, (.dict #[⟨PyData.keyHash P "__module__", .str "__module__" 554, .str "outlinemill.text_line" 541⟩, ⟨PyData.keyHash P "__firstlineno__", .str "__firstlineno__" 558, .int 149 557⟩, ⟨PyData.keyHash P "__init__", .str "__init__" 568, .ref 297⟩, ⟨PyData.keyHash P "__static_attributes__", .str "__static_attributes__" 572, .ref 298⟩, ⟨PyData.keyHash P "__dict__", .str "__dict__" 574, .ref 301⟩, ⟨PyData.keyHash P "__weakref__", .str "__weakref__" 576, .ref 302⟩, ⟨PyData.keyHash P "__doc__", .str "__doc__" 577, .none⟩] 4), #[]⟩,
  ⟨.type "type", none, (.cls ⟨"Letter", [.type "object"], [.ref 300, .type "object"], 299, "Letter", true, [], [], false, none, false⟩), #[none, none, (some (.str "Letter" 547)), (some (.str "Letter" 555)), (some (.builtin "object.__new__")), (some (.bool true))]⟩,
  ⟨.type "getset_descriptor", none, (.fields #[.str "__dict__" 573, .ref 300, .builtin "function.__dict__", .builtin "function.__dict__#set"]), #[]⟩,
  ⟨.type "getset_descriptor", none, (.fields #[.str "__weakref__" 575, .ref 300, .builtin "ExceptionGroup.__weakref__", .none]), #[]⟩,
  ⟨.type "super", none, (.fields #[.ref 300, .ref 300, .ref 300]), #[]⟩,
  ⟨.type "builtin_function_or_method", none, (.fields #[.builtin "object.__init_subclass__", .ref 300]), #[]⟩]
noncomputable def ob7 (P : Params) : List Obj := [
  ⟨.type "tuple", none, (.seq #[] 0), #[]⟩,
  ⟨.none, none, (.fields #[]), #[]⟩,
  ⟨.type "tuple", none, (.seq #[.str "advances" 583, .str "kerns" 584] 0), #[]⟩,
  ⟨.type "tuple", none, (.seq #[] 0), #[]⟩,
  ⟨.none, none, (.func ⟨"length_of", "length_of", (dOf 28 0).1, .stmts (dOf 28 0).2.1, (dOf 28 0).2.2, 0, [], .none, .none, .none, .none, none, .none, .none, 0⟩), #[]⟩,
  ⟨.type "code", none, (.fields #[.str "length_of" 580, .str "length_of" 581, .str "/claim/cut.py" 582, .int 155 0, .int 2 0, .int 0 0, .int 0 0, .int 3 0, .ref 305, .bool true, .int 181 0, .ref 306, .none, .ref 307, .ref 308, .ref 309, .int 585 0, .int 155 0, .str "/claim/cut.py" 586]), #[]⟩,
  ⟨.type "function", none, (.func ⟨"length_of", "length_of", (dOf 28 0).1, .stmts (dOf 28 0).2.1, (dOf 28 0).2.2, 3, [], .none, .none, .none, .str "outlinemill.text_line" 541, none, .ref 310, .none, 0⟩), #[]⟩,
  ⟨.type "tuple", none, (.seq #[] 0), #[]⟩,
  ⟨.none, none, (.fields #[]), #[]⟩,
  ⟨.type "tuple", none, (.seq #[.str "advances" 591, .str "kerns" 592, .str "found" 593, .str "at" 594, .str "number" 595] 0), #[]⟩,
  ⟨.type "tuple", none, (.seq #[] 0), #[]⟩,
  ⟨.none, none, (.func ⟨"begins_of", "begins_of", (dOf 29 0).1, .stmts (dOf 29 0).2.1, (dOf 29 0).2.2, 0, [], .none, .none, .none, .none, none, .none, .none, 0⟩), #[]⟩,
  ⟨.type "code", none, (.fields #[.str "begins_of" 588, .str "begins_of" 589, .str "/claim/cut.py" 590, .int 157 0, .int 2 0, .int 0 0, .int 0 0, .int 3 0, .ref 312, .bool true, .int 181 0, .ref 313, .none, .ref 314, .ref 315, .ref 316, .int 596 0, .int 157 0, .str "/claim/cut.py" 597]), #[]⟩,
  ⟨.type "function", none, (.func ⟨"begins_of", "begins_of", (dOf 29 0).1, .stmts (dOf 29 0).2.1, (dOf 29 0).2.2, 3, [], .none, .none, .none, .str "outlinemill.text_line" 541, none, .ref 317, .none, 0⟩), #[]⟩,
  ⟨.type "tuple", none, (.seq #[] 0), #[]⟩,
  ⟨.none, none, (.fields #[]), #[]⟩,
  ⟨.type "tuple", none, (.seq #[.str "length" 602, .str "anchor" 603] 0), #[]⟩,
  ⟨.type "tuple", none, (.seq #[] 0), #[]⟩,
  ⟨.none, none, (.func ⟨"anchor_shift", "anchor_shift", (dOf 30 0).1, .stmts (dOf 30 0).2.1, (dOf 30 0).2.2, 0, [], .none, .none, .none, .none, none, .none, .none, 0⟩), #[]⟩,
  ⟨.type "code", none, (.fields #[.str "anchor_shift" 599, .str "anchor_shift" 600, .str "/claim/cut.py" 601, .int 165 0, .int 2 0, .int 0 0, .int 0 0, .int 3 0, .ref 319, .bool true, .int 181 0, .ref 320, .none, .ref 321, .ref 322, .ref 323, .int 604 0, .int 165 0, .str "/claim/cut.py" 605]), #[]⟩,
  ⟨.type "function", none, (.func ⟨"anchor_shift", "anchor_shift", (dOf 30 0).1, .stmts (dOf 30 0).2.1, (dOf 30 0).2.2, 3, [], .none, .none, .none, .str "outlinemill.text_line" 541, none, .ref 324, .none, 0⟩), #[]⟩,
  ⟨.type "tuple", none, (.seq #[] 0), #[]⟩,
  ⟨.none, none, (.fields #[]), #[]⟩,
  ⟨.none, none, (.func ⟨"glyphs_of", "glyphs_of", (dOf 31 0).1, .stmts (dOf 31 0).2.1, (dOf 31 0).2.2, 0, [], .none, .none, .none, .none, none, .none, .none, 0⟩), #[]⟩,
  ⟨.type "code", none, (.fields #[.str "glyphs_of" 607, .str "glyphs_of" 608, .str "/claim/cut.py" 609, .int 171 0, .int 2 0, .int 0 0, .int 0 0, .int 3 0, .ref 326, .bool true, .int 181 0, .ref 327, .none, .none, .none, .ref 328, .int 610 0, .int 171 0, .str "/claim/cut.py" 611]), #[]⟩,
  ⟨.type "function", none, (.func ⟨"glyphs_of", "glyphs_of", (dOf 31 0).1, .stmts (dOf 31 0).2.1, (dOf 31 0).2.2, 3, [], .none, .none, .none, .str "outlinemill.text_line" 541, none, .ref 329, .none, 0⟩), #[]⟩,
  ⟨.type "tuple", none, (.seq #[] 0), #[]⟩,
  ⟨.none, none, (.fields #[]), #[]⟩,
  ⟨.none, none, (.func ⟨"letters_of", "letters_of", (dOf 32 0).1, .stmts (dOf 32 0).2.1, (dOf 32 0).2.2, 0, [], .none, .none, .none, .none, none, .none, .none, 0⟩), #[]⟩,
  ⟨.type "code", none, (.fields #[.str "letters_of" 613, .str "letters_of" 614, .str "/claim/cut.py" 615, .int 173 0, .int 2 0, .int 0 0, .int 0 0, .int 3 0, .ref 331, .bool true, .int 181 0, .ref 332, .none, .none, .none, .ref 333, .int 616 0, .int 173 0, .str "/claim/cut.py" 617]), #[]⟩,
  ⟨.type "function", none, (.func ⟨"letters_of", "letters_of", (dOf 32 0).1, .stmts (dOf 32 0).2.1, (dOf 32 0).2.2, 3, [], .none, .none, .none, .str "outlinemill.text_line" 541, none, .ref 334, .none, 0⟩), #[]⟩]
noncomputable def ob8 (P : Params) : List Obj := [
  ⟨.type "tuple", none, (.seq #[] 0), #[]⟩,
  ⟨.type "builtin_function_or_method", none, (.fields #[.builtin "type.__prepare__", .type "type"]), #[]⟩,
  ⟨.type "dict", none, (.dict #[⟨PyData.keyHash P "__module__", .str "__module__" 628, .str "outlinemill.text_path" 619⟩, ⟨PyData.keyHash P "__qualname__", .str "__qualname__" 630, .str "PathSide" 629⟩, ⟨PyData.keyHash P "__firstlineno__", .str "__firstlineno__" 632, .int 181 631⟩, ⟨PyData.keyHash P "__init__", .str "__init__" 642, .ref 349⟩, ⟨PyData.keyHash P "end", .str "end" 649, .ref 356⟩, ⟨PyData.keyHash P "holds", .str "holds" 657, .ref 363⟩, ⟨PyData.keyHash P "point_at", .str "point_at" 666, .ref 370⟩, ⟨PyData.keyHash P "turn", .str "turn" 673, .ref 377⟩, ⟨PyData.keyHash P "__static_attributes__", .str "__static_attributes__" 678, .ref 378⟩] 9), #[]⟩,
  ⟨.type "tuple", none, (.seq #[] 0), #[]⟩,
  ⟨.none, none, (.fields #[.int 183 0, .int 4 0, .ref 348, .int 189 0, .int 4 0, .ref 355, .int 192 0, .int 4 0, .ref 362, .int 195 0, .int 4 0, .ref 369, .int 199 0, .int 4 0, .ref 376]), #[]⟩,
  ⟨.type "code", none, (.fields #[.str "PathSide" 623, .str "PathSide" 624, .str "/claim/cut.py" 625, .int 181 0, .int 0 0, .int 0 0, .int 0 0, .int 0 0, .ref 339, .bool false, .int 181 0, .ref 340, .none, .none, .none, .none, .int 626 0, .int 181 0, .str "/claim/cut.py" 627]), #[]⟩,
  ⟨.type "frame", none, .plain, #[(some (.ref 341)), (some (.ref 3)), (some (.ref 338)), none, (some (.str "outlinemill.text_path" 619)), none, (some (.ref 0))]⟩,
  ⟨.type "tuple", none, (.seq #[] 0), #[]⟩,
  ⟨.none, none, (.fields #[]), #[]⟩,
  ⟨.type "tuple", none, (.seq #[.str "self" 636, .str "one" 637, .str "other" 638, .str "begin" 639] 0), #[]⟩,
  ⟨.type "tuple", none, (.seq #[] 0), #[]⟩,
  ⟨.none, none, (.func ⟨"__init__", "PathSide.__init__", (dOf 34 0).1, .stmts (dOf 34 0).2.1, (dOf 34 0).2.2, 0, [], .none, .none, .none, .none, none, .none, .none, 0⟩), #[]⟩,
  ⟨.type "code", none, (.fields #[.str "__init__" 633, .str "PathSide.__init__" 634, .str "/claim/cut.py" 635, .int 183 0, .int 4 0, .int 0 0, .int 0 0, .int 3 0, .ref 343, .bool true, .int 181 0, .ref 344, .none, .ref 345, .ref 346, .ref 347, .int 640 0, .int 183 0, .str "/claim/cut.py" 641]), #[]⟩,
  ⟨.type "function", none, (.func ⟨"__init__", "PathSide.__init__", (dOf 34 0).1, .stmts (dOf 34 0).2.1, (dOf 34 0).2.2, 3, [], .none, .none, .none, .str "outlinemill.text_path" 619, none, .ref 348, .none, 0⟩), #[]⟩,
  ⟨.type "tuple", none, (.seq #[] 0), #[]⟩,
  ⟨.none, none, (.fields #[]), #[]⟩,
  ⟨.type "tuple", none, (.seq #[.str "self" 646] 0), #[]⟩,
  ⟨.type "tuple", none, (.seq #[] 0), #[]⟩,
  ⟨.none, none, (.func ⟨"end", "PathSide.end", (dOf 34 1).1, .stmts (dOf 34 1).2.1, (dOf 34 1).2.2, 0, [], .none, .none, .none, .none, none, .none, .none, 0⟩), #[]⟩,
  ⟨.type "code", none, (.fields #[.str "end" 643, .str "PathSide.end" 644, .str "/claim/cut.py" 645, .int 189 0, .int 1 0, .int 0 0, .int 0 0, .int 3 0, .ref 350, .bool true, .int 181 0, .ref 351, .none, .ref 352, .ref 353, .ref 354, .int 647 0, .int 189 0, .str "/claim/cut.py" 648]), #[]⟩,
  ⟨.type "function", none, (.func ⟨"end", "PathSide.end", (dOf 34 1).1, .stmts (dOf 34 1).2.1, (dOf 34 1).2.2, 3, [], .none, .none, .none, .str "outlinemill.text_path" 619, none, .ref 355, .none, 0⟩), #[]⟩,
  ⟨.type "tuple", none, (.seq #[] 0), #[]⟩,
  ⟨.none, none, (.fields #[]), #[]⟩,
  ⟨.type "tuple", none, (.seq #[.str "self" 653, .str "distance" 654] 0), #[]⟩,
  ⟨.type "tuple", none, (.seq #[] 0), #[]⟩,
  ⟨.none, none, (.func ⟨"holds", "PathSide.holds", (dOf 34 2).1, .stmts (dOf 34 2).2.1, (dOf 34 2).2.2, 0, [], .none, .none, .none, .none, none, .none, .none, 0⟩), #[]⟩,
  ⟨.type "code", none, (.fields #[.str "holds" 650, .str "PathSide.holds" 651, .str "/claim/cut.py" 652, .int 192 0, .int 2 0, .int 0 0, .int 0 0, .int 3 0, .ref 357, .bool true, .int 181 0, .ref 358, .none, .ref 359, .ref 360, .ref 361, .int 655 0, .int 192 0, .str "/claim/cut.py" 656]), #[]⟩,
  ⟨.type "function", none, (.func ⟨"holds", "PathSide.holds", (dOf 34 2).1, .stmts (dOf 34 2).2.1, (dOf 34 2).2.2, 3, [], .none, .none, .none, .str "outlinemill.text_path" 619, none, .ref 362, .none, 0⟩), #[]⟩,
  ⟨.type "tuple", none, (.seq #[] 0), #[]⟩,
  ⟨.none, none, (.fields #[]), #[]⟩,
  ⟨.type "tuple", none, (.seq #[.str "self" 661, .str "distance" 662, .str "share" 663] 0), #[]⟩,
  ⟨.type "tuple", none, (.seq #[] 0), #[]⟩,
  ⟨.none, none, (.func ⟨"point_at", "PathSide.point_at", (dOf 34 3).1, .stmts (dOf 34 3).2.1, (dOf 34 3).2.2, 0, [], .none, .none, .none, .none, none, .none, .none, 0⟩), #[]⟩,
  ⟨.type "code", none, (.fields #[.str "point_at" 658, .str "PathSide.point_at" 659, .str "/claim/cut.py" 660, .int 195 0, .int 2 0, .int 0 0, .int 0 0, .int 3 0, .ref 364, .bool true, .int 181 0, .ref 365, .none, .ref 366, .ref 367, .ref 368, .int 664 0, .int 195 0, .str "/claim/cut.py" 665]), #[]⟩,
  ⟨.type "function", none, (.func ⟨"point_at", "PathSide.point_at", (dOf 34 3).1, .stmts (dOf 34 3).2.1, (dOf 34 3).2.2, 3, [], .none, .none, .none, .str "outlinemill.text_path" 619, none, .ref 369, .none, 0⟩), #[]⟩,
  ⟨.type "tuple", none, (.seq #[] 0), #[]⟩,
  ⟨.none, none, (.fields #[]), #[]⟩,
  ⟨.type "tuple", none, (.seq #[.str "self" 670] 0), #[]⟩,
  ⟨.type "tuple", none, (.seq #[] 0), #[]⟩,
  ⟨.none, none, (.func ⟨"turn", "PathSide.turn", (dOf 34 4).1, .stmts (dOf 34 4).2.1, (dOf 34 4).2.2, 0, [], .none, .none, .none, .none, none, .none, .none, 0⟩), #[]⟩,
  ⟨.type "code", none, (.fields #[.str "turn" 667, .str "PathSide.turn" 668, .str "/claim/cut.py" 669, .int 199 0, .int 1 0, .int 0 0, .int 0 0, .int 3 0, .ref 371, .bool true, .int 181 0, .ref 372, .none, .ref 373, .ref 374, .ref 375, .int 671 0, .int 199 0, .str "/claim/cut.py" 672]), #[]⟩,
  ⟨.type "function", none, (.func ⟨"turn", "PathSide.turn", (dOf 34 4).1, .stmts (dOf 34 4).2.1, (dOf 34 4).2.2, 3, [], .none, .none, .none, .str "outlinemill.text_path" 619, none, .ref 376, .none, 0⟩), #[]⟩,
  ⟨.type "tuple", none, (.seq #[.str "begin" 674, .str "length" 675, .str "one" 676, .str "way" 677] 0), #[]⟩,
  ⟨.type "dict", none, (.dict #[⟨PyData.keyHash P "__module__", .str "__module__" 628, .str "outlinemill.text_path" 619⟩, ⟨PyData.keyHash P "__firstlineno__", .str "__firstlineno__" 632, .int 181 631⟩, ⟨PyData.keyHash P "__init__", .str "__init__" 642, .ref 349⟩, ⟨PyData.keyHash P "end", .str "end" 649, .ref 356⟩, ⟨PyData.keyHash P "holds", .str "holds" 657, .ref 363⟩, ⟨PyData.keyHash P "point_at", .str "point_at" 666, .ref 370⟩, ⟨PyData.keyHash P "turn", .str "turn" 673, .ref 377⟩, ⟨PyData.keyHash P "__static_attributes__", .str "__static_attributes__" 678, .ref 378⟩, ⟨PyData.keyHash P "__dict__", .str "__dict__" 680, .ref 381⟩, ⟨PyData.keyHash P "__weakref__", .str "__weakref__" 682, .ref 382⟩, ⟨PyData.keyHash P "__doc__", .str "__doc__" 683, .none⟩] 4), #[]⟩,
  ⟨.type "type", none, (.cls ⟨"PathSide", [.type "object"], [.ref 380, .type "object"], 379, "PathSide", true, [], [], false, none, false⟩), #[none, none, (some (.str "PathSide" 621)), (some (.str "PathSide" 629)), (some (.builtin "object.__new__")), (some (.bool true))]⟩,
  ⟨.type "getset_descriptor", none, (.fields #[.str "__dict__" 679, .ref 380, .builtin "function.__dict__", .builtin "function.__dict__#set"]), #[]⟩,
  ⟨.type "getset_descriptor", none, (.fields #[.str "__weakref__" 681, .ref 380, .builtin "ExceptionGroup.__weakref__", .none]), #[]⟩,
  ⟨.type "super", none, (.fields #[.ref 380, .ref 380, .ref 380]), #[]⟩,
  ⟨.type "builtin_function_or_method", none, (.fields #[.builtin "object.__init_subclass__", .ref 380]), #[]⟩]
noncomputable def ob9 (P : Params) : List Obj := [
  ⟨.type "tuple", none, (.seq #[] 0), #[]⟩,
  ⟨.none, none, (.fields #[]), #[]⟩,
  ⟨.type "tuple", none, (.seq #[.str "contour" 689, .str "spots" 690, .str "is_closed" 691, .str "found" 692, .str "begin" 693, .str "at" 694, .str "side" 695] 0), #[]⟩,
  ⟨.type "tuple", none, (.seq #[] 0), #[]⟩,
  ⟨.none, none, (.func ⟨"path_sides", "path_sides", (dOf 35 0).1, .stmts (dOf 35 0).2.1, (dOf 35 0).2.2, 0, [], .none, .none, .none, .none, none, .none, .none, 0⟩), #[]⟩,
  ⟨.type "code", none, (.fields #[.str "path_sides" 686, .str "path_sides" 687, .str "/claim/cut.py" 688, .int 201 0, .int 1 0, .int 0 0, .int 0 0, .int 3 0, .ref 385, .bool true, .int 181 0, .ref 386, .none, .ref 387, .ref 388, .ref 389, .int 696 0, .int 201 0, .str "/claim/cut.py" 697]), #[]⟩,
  ⟨.type "function", none, (.func ⟨"path_sides", "path_sides", (dOf 35 0).1, .stmts (dOf 35 0).2.1, (dOf 35 0).2.2, 3, [], .none, .none, .none, .str "outlinemill.text_path" 619, none, .ref 390, .none, 0⟩), #[]⟩,
  ⟨.type "tuple", none, (.seq #[] 0), #[]⟩,
  ⟨.none, none, (.fields #[]), #[]⟩,
  ⟨.type "tuple", none, (.seq #[.str "sides" 702] 0), #[]⟩,
  ⟨.type "tuple", none, (.seq #[] 0), #[]⟩,
  ⟨.none, none, (.func ⟨"path_length", "path_length", (dOf 36 0).1, .stmts (dOf 36 0).2.1, (dOf 36 0).2.2, 0, [], .none, .none, .none, .none, none, .none, .none, 0⟩), #[]⟩,
  ⟨.type "code", none, (.fields #[.str "path_length" 699, .str "path_length" 700, .str "/claim/cut.py" 701, .int 211 0, .int 1 0, .int 0 0, .int 0 0, .int 3 0, .ref 392, .bool true, .int 181 0, .ref 393, .none, .ref 394, .ref 395, .ref 396, .int 703 0, .int 211 0, .str "/claim/cut.py" 704]), #[]⟩,
  ⟨.type "function", none, (.func ⟨"path_length", "path_length", (dOf 36 0).1, .stmts (dOf 36 0).2.1, (dOf 36 0).2.2, 3, [], .none, .none, .none, .str "outlinemill.text_path" 619, none, .ref 397, .none, 0⟩), #[]⟩,
  ⟨.type "tuple", none, (.seq #[] 0), #[]⟩,
  ⟨.none, none, (.fields #[]), #[]⟩,
  ⟨.type "tuple", none, (.seq #[.str "sides" 709, .str "distance" 710, .str "side" 711] 0), #[]⟩,
  ⟨.type "tuple", none, (.seq #[] 0), #[]⟩,
  ⟨.none, none, (.func ⟨"side_at", "side_at", (dOf 37 0).1, .stmts (dOf 37 0).2.1, (dOf 37 0).2.2, 0, [], .none, .none, .none, .none, none, .none, .none, 0⟩), #[]⟩,
  ⟨.type "code", none, (.fields #[.str "side_at" 706, .str "side_at" 707, .str "/claim/cut.py" 708, .int 213 0, .int 2 0, .int 0 0, .int 0 0, .int 3 0, .ref 399, .bool true, .int 181 0, .ref 400, .none, .ref 401, .ref 402, .ref 403, .int 712 0, .int 213 0, .str "/claim/cut.py" 713]), #[]⟩,
  ⟨.type "function", none, (.func ⟨"side_at", "side_at", (dOf 37 0).1, .stmts (dOf 37 0).2.1, (dOf 37 0).2.2, 3, [], .none, .none, .none, .str "outlinemill.text_path" 619, none, .ref 404, .none, 0⟩), #[]⟩,
  ⟨.type "tuple", none, (.seq #[] 0), #[]⟩,
  ⟨.none, none, (.fields #[]), #[]⟩,
  ⟨.type "tuple", none, (.seq #[.str "scale" 718, .str "half" 719, .str "turn" 720, .str "place" 721, .str "cosine" 722, .str "sine" 723, .str "back" 724, .str "x" 725, .str "y" 726] 0), #[]⟩,
  ⟨.type "tuple", none, (.seq #[] 0), #[]⟩,
  ⟨.none, none, (.func ⟨"turned_matrix", "turned_matrix", (dOf 38 0).1, .stmts (dOf 38 0).2.1, (dOf 38 0).2.2, 0, [], .none, .none, .none, .none, none, .none, .none, 0⟩), #[]⟩,
  ⟨.type "code", none, (.fields #[.str "turned_matrix" 715, .str "turned_matrix" 716, .str "/claim/cut.py" 717, .int 218 0, .int 4 0, .int 0 0, .int 0 0, .int 3 0, .ref 406, .bool true, .int 181 0, .ref 407, .none, .ref 408, .ref 409, .ref 410, .int 727 0, .int 218 0, .str "/claim/cut.py" 728]), #[]⟩,
  ⟨.type "function", none, (.func ⟨"turned_matrix", "turned_matrix", (dOf 38 0).1, .stmts (dOf 38 0).2.1, (dOf 38 0).2.2, 3, [], .none, .none, .none, .str "outlinemill.text_path" 619, none, .ref 411, .none, 0⟩), #[]⟩,
  ⟨.type "tuple", none, (.seq #[] 0), #[]⟩,
  ⟨.none, none, (.fields #[]), #[]⟩,
  ⟨.type "tuple", none, (.seq #[.str "letter" 733, .str "begin" 734, .str "scale" 735, .str "grain" 736, .str "told" 737] 0), #[]⟩,
  ⟨.type "tuple", none, (.seq #[] 0), #[]⟩,
  ⟨.none, none, (.func ⟨"middle_along", "middle_along", (dOf 39 0).1, .stmts (dOf 39 0).2.1, (dOf 39 0).2.2, 0, [], .none, .none, .none, .none, none, .none, .none, 0⟩), #[]⟩,
  ⟨.type "code", none, (.fields #[.str "middle_along" 730, .str "middle_along" 731, .str "/claim/cut.py" 732, .int 224 0, .int 4 0, .int 0 0, .int 0 0, .int 3 0, .ref 413, .bool true, .int 181 0, .ref 414, .none, .ref 415, .ref 416, .ref 417, .int 738 0, .int 224 0, .str "/claim/cut.py" 739]), #[]⟩,
  ⟨.type "function", none, (.func ⟨"middle_along", "middle_along", (dOf 39 0).1, .stmts (dOf 39 0).2.1, (dOf 39 0).2.2, 3, [], .none, .none, .none, .str "outlinemill.text_path" 619, none, .ref 418, .none, 0⟩), #[]⟩,
  ⟨.type "tuple", none, (.seq #[.str "start" 741] 0), #[]⟩,
  ⟨.type "tuple", none, (.seq #[] 0), #[]⟩,
  ⟨.none, none, (.fields #[]), #[]⟩,
  ⟨.type "tuple", none, (.seq #[.str "font" 745, .str "units" 746, .str "text" 747, .str "contour" 748, .str "start" 749, .str "size" 750, .str "grain" 751, .str "anchor" 752, .str "letters" 753, .str "length" 754, .str "sides" 755, .str "scale" 756, .str "begin" 757, .str "found" 758, .str "letter" 759, .str "distance" 760, .str "side" 761, .str "spot" 762, .str "place" 763, .str "matrix" 764] 0), #[]⟩,
  ⟨.type "tuple", none, (.seq #[] 0), #[]⟩,
  ⟨.none, none, (.func ⟨"path_letters", "path_letters", (dOf 40 0).1, .stmts (dOf 40 0).2.1, (dOf 40 0).2.2, 0, [], .none, .none, .none, .none, none, .none, .none, 0⟩), #[]⟩,
  ⟨.type "code", none, (.fields #[.str "path_letters" 742, .str "path_letters" 743, .str "/claim/cut.py" 744, .int 227 0, .int 8 0, .int 0 0, .int 0 0, .int 3 0, .ref 421, .bool true, .int 181 0, .ref 422, .none, .ref 423, .ref 424, .ref 425, .int 765 0, .int 227 0, .str "/claim/cut.py" 766]), #[]⟩,
  ⟨.type "function", none, (.func ⟨"path_letters", "path_letters", (dOf 40 0).1, .stmts (dOf 40 0).2.1, (dOf 40 0).2.2, 3, [], .ref 420, .none, .none, .str "outlinemill.text_path" 619, none, .ref 426, .none, 0⟩), #[]⟩,
  ⟨.type "tuple", none, (.seq #[] 0), #[]⟩,
  ⟨.none, none, (.fields #[]), #[]⟩,
  ⟨.type "tuple", none, (.seq #[.str "script" 773, .str "bulk" 774] 0), #[]⟩,
  ⟨.type "tuple", none, (.seq #[] 0), #[]⟩,
  ⟨.none, none, (.func ⟨"_law_source", "_law_source", (dOf 42 0).1, .stmts (dOf 42 0).2.1, (dOf 42 0).2.2, 0, [], .none, .none, .none, .none, none, .none, .none, 0⟩), #[]⟩,
  ⟨.type "code", none, (.fields #[.str "_law_source" 770, .str "_law_source" 771, .str "/claim/cut.py" 772, .int 243 0, .int 1 0, .int 0 0, .int 0 0, .int 3 0, .ref 428, .bool true, .int 181 0, .ref 429, .none, .ref 430, .ref 431, .ref 432, .int 775 0, .int 243 0, .str "/claim/cut.py" 776]), #[]⟩,
  ⟨.type "function", none, (.func ⟨"_law_source", "_law_source", (dOf 42 0).1, .stmts (dOf 42 0).2.1, (dOf 42 0).2.2, 3, [], .none, .none, .none, .str "law_pf0199_01" 768, none, .ref 433, .none, 0⟩), #[]⟩,
  ⟨.type "tuple", none, (.seq #[] 0), #[]⟩,
  ⟨.none, none, (.fields #[]), #[]⟩,
  ⟨.type "tuple", none, (.seq #[.str "source" 781, .str "top" 782, .str "figure" 783] 0), #[]⟩,
  ⟨.type "tuple", none, (.seq #[] 0), #[]⟩,
  ⟨.none, none, (.func ⟨"_law_next", "_law_next", (dOf 43 0).1, .stmts (dOf 43 0).2.1, (dOf 43 0).2.2, 0, [], .none, .none, .none, .none, none, .none, .none, 0⟩), #[]⟩,
  ⟨.type "code", none, (.fields #[.str "_law_next" 778, .str "_law_next" 779, .str "/claim/cut.py" 780, .int 246 0, .int 2 0, .int 0 0, .int 0 0, .int 3 0, .ref 435, .bool true, .int 181 0, .ref 436, .none, .ref 437, .ref 438, .ref 439, .int 784 0, .int 246 0, .str "/claim/cut.py" 785]), #[]⟩,
  ⟨.type "function", none, (.func ⟨"_law_next", "_law_next", (dOf 43 0).1, .stmts (dOf 43 0).2.1, (dOf 43 0).2.2, 3, [], .none, .none, .none, .str "law_pf0199_01" 768, none, .ref 440, .none, 0⟩), #[]⟩,
  ⟨.type "tuple", none, (.seq #[] 0), #[]⟩,
  ⟨.none, none, (.fields #[]), #[]⟩,
  ⟨.type "tuple", none, (.seq #[.str "source" 790, .str "things" 791] 0), #[]⟩,
  ⟨.type "tuple", none, (.seq #[] 0), #[]⟩,
  ⟨.none, none, (.func ⟨"_law_pick", "_law_pick", (dOf 44 0).1, .stmts (dOf 44 0).2.1, (dOf 44 0).2.2, 0, [], .none, .none, .none, .none, none, .none, .none, 0⟩), #[]⟩,
  ⟨.type "code", none, (.fields #[.str "_law_pick" 787, .str "_law_pick" 788, .str "/claim/cut.py" 789, .int 252 0, .int 2 0, .int 0 0, .int 0 0, .int 3 0, .ref 442, .bool true, .int 181 0, .ref 443, .none, .ref 444, .ref 445, .ref 446, .int 792 0, .int 252 0, .str "/claim/cut.py" 793]), #[]⟩,
  ⟨.type "function", none, (.func ⟨"_law_pick", "_law_pick", (dOf 44 0).1, .stmts (dOf 44 0).2.1, (dOf 44 0).2.2, 3, [], .none, .none, .none, .str "law_pf0199_01" 768, none, .ref 447, .none, 0⟩), #[]⟩,
  ⟨.type "tuple", none, (.seq #[] 0), #[]⟩,
  ⟨.none, none, (.fields #[]), #[]⟩,
  ⟨.type "tuple", none, (.seq #[.str "top" 798, .str "bottom" 799, .str "one" 800, .str "other" 801, .str "turn" 802] 0), #[]⟩,
  ⟨.type "tuple", none, (.seq #[] 0), #[]⟩,
  ⟨.none, none, (.func ⟨"_law_low", "_law_low", (dOf 45 0).1, .stmts (dOf 45 0).2.1, (dOf 45 0).2.2, 0, [], .none, .none, .none, .none, none, .none, .none, 0⟩), #[]⟩,
  ⟨.type "code", none, (.fields #[.str "_law_low" 795, .str "_law_low" 796, .str "/claim/cut.py" 797, .int 254 0, .int 2 0, .int 0 0, .int 0 0, .int 3 0, .ref 449, .bool true, .int 181 0, .ref 450, .none, .ref 451, .ref 452, .ref 453, .int 803 0, .int 254 0, .str "/claim/cut.py" 804]), #[]⟩,
  ⟨.type "function", none, (.func ⟨"_law_low", "_law_low", (dOf 45 0).1, .stmts (dOf 45 0).2.1, (dOf 45 0).2.2, 3, [], .none, .none, .none, .str "law_pf0199_01" 768, none, .ref 454, .none, 0⟩), #[]⟩,
  ⟨.type "tuple", none, (.seq #[] 0), #[]⟩,
  ⟨.none, none, (.fields #[]), #[]⟩,
  ⟨.type "tuple", none, (.seq #[.str "one" 809, .str "other" 810] 0), #[]⟩,
  ⟨.type "tuple", none, (.seq #[] 0), #[]⟩,
  ⟨.none, none, (.func ⟨"_law_sum", "_law_sum", (dOf 46 0).1, .stmts (dOf 46 0).2.1, (dOf 46 0).2.2, 0, [], .none, .none, .none, .none, none, .none, .none, 0⟩), #[]⟩,
  ⟨.type "code", none, (.fields #[.str "_law_sum" 806, .str "_law_sum" 807, .str "/claim/cut.py" 808, .int 262 0, .int 2 0, .int 0 0, .int 0 0, .int 3 0, .ref 456, .bool true, .int 181 0, .ref 457, .none, .ref 458, .ref 459, .ref 460, .int 811 0, .int 262 0, .str "/claim/cut.py" 812]), #[]⟩,
  ⟨.type "function", none, (.func ⟨"_law_sum", "_law_sum", (dOf 46 0).1, .stmts (dOf 46 0).2.1, (dOf 46 0).2.2, 3, [], .none, .none, .none, .str "law_pf0199_01" 768, none, .ref 461, .none, 0⟩), #[]⟩,
  ⟨.type "tuple", none, (.seq #[] 0), #[]⟩,
  ⟨.none, none, (.fields #[]), #[]⟩,
  ⟨.type "tuple", none, (.seq #[.str "one" 817, .str "other" 818] 0), #[]⟩,
  ⟨.type "tuple", none, (.seq #[] 0), #[]⟩,
  ⟨.none, none, (.func ⟨"_law_times", "_law_times", (dOf 47 0).1, .stmts (dOf 47 0).2.1, (dOf 47 0).2.2, 0, [], .none, .none, .none, .none, none, .none, .none, 0⟩), #[]⟩,
  ⟨.type "code", none, (.fields #[.str "_law_times" 814, .str "_law_times" 815, .str "/claim/cut.py" 816, .int 264 0, .int 2 0, .int 0 0, .int 0 0, .int 3 0, .ref 463, .bool true, .int 181 0, .ref 464, .none, .ref 465, .ref 466, .ref 467, .int 819 0, .int 264 0, .str "/claim/cut.py" 820]), #[]⟩,
  ⟨.type "function", none, (.func ⟨"_law_times", "_law_times", (dOf 47 0).1, .stmts (dOf 47 0).2.1, (dOf 47 0).2.2, 3, [], .none, .none, .none, .str "law_pf0199_01" 768, none, .ref 468, .none, 0⟩), #[]⟩,
  ⟨.type "tuple", none, (.seq #[] 0), #[]⟩,
  ⟨.none, none, (.fields #[]), #[]⟩,
  ⟨.type "tuple", none, (.seq #[.str "source" 825, .str "spots" 826, .str "sides" 827, .str "begin" 828, .str "turn" 829, .str "right" 830, .str "down" 831, .str "many" 832, .str "is_closed" 833, .str "round_spots" 834, .str "one" 835, .str "other" 836, .str "way" 837, .str "far" 838] 0), #[]⟩,
  ⟨.type "tuple", none, (.seq #[] 0), #[]⟩,
  ⟨.none, none, (.func ⟨"_law_path", "_law_path", (dOf 48 0).1, .stmts (dOf 48 0).2.1, (dOf 48 0).2.2, 0, [], .none, .none, .none, .none, none, .none, .none, 0⟩), #[]⟩,
  ⟨.type "code", none, (.fields #[.str "_law_path" 822, .str "_law_path" 823, .str "/claim/cut.py" 824, .int 266 0, .int 1 0, .int 0 0, .int 0 0, .int 3 0, .ref 470, .bool true, .int 181 0, .ref 471, .none, .ref 472, .ref 473, .ref 474, .int 839 0, .int 266 0, .str "/claim/cut.py" 840]), #[]⟩,
  ⟨.type "function", none, (.func ⟨"_law_path", "_law_path", (dOf 48 0).1, .stmts (dOf 48 0).2.1, (dOf 48 0).2.2, 3, [], .none, .none, .none, .str "law_pf0199_01" 768, none, .ref 475, .none, 0⟩), #[]⟩]
noncomputable def ob10 (P : Params) : List Obj := [
  ⟨.type "tuple", none, (.seq #[] 0), #[]⟩,
  ⟨.none, none, (.fields #[]), #[]⟩,
  ⟨.type "tuple", none, (.seq #[.str "advances" 845, .str "kern" 846, .str "font" 847] 0), #[]⟩,
  ⟨.type "tuple", none, (.seq #[.str "advances" 848, .str "kern" 849] 0), #[]⟩,
  ⟨.none, none, (.func ⟨"_law_font", "_law_font", (dOf 49 0).1, .stmts (dOf 49 0).2.1, (dOf 49 0).2.2, 0, [], .none, .none, .none, .none, none, .none, .none, 0⟩), #[]⟩,
  ⟨.type "code", none, (.fields #[.str "_law_font" 842, .str "_law_font" 843, .str "/claim/cut.py" 844, .int 282 0, .int 2 0, .int 0 0, .int 0 0, .int 3 0, .ref 477, .bool true, .int 181 0, .ref 478, .none, .ref 479, .ref 480, .ref 481, .int 850 0, .int 282 0, .str "/claim/cut.py" 851]), #[]⟩,
  ⟨.type "function", none, (.func ⟨"_law_font", "_law_font", (dOf 49 0).1, .stmts (dOf 49 0).2.1, (dOf 49 0).2.2, 3, [], .none, .none, .none, .str "law_pf0199_01" 768, none, .ref 482, .none, 0⟩), #[]⟩,
  ⟨.type "tuple", none, (.seq #[] 0), #[]⟩,
  ⟨.none, none, (.fields #[]), #[]⟩,
  ⟨.none, none, (.func ⟨"_law_middles", "_law_middles", (dOf 50 0).1, .stmts (dOf 50 0).2.1, (dOf 50 0).2.2, 0, [], .none, .none, .none, .none, none, .none, .none, 0⟩), #[]⟩,
  ⟨.type "code", none, (.fields #[.str "_law_middles" 853, .str "_law_middles" 854, .str "/claim/cut.py" 855, .int 289 0, .int 4 0, .int 0 0, .int 0 0, .int 3 0, .ref 484, .bool true, .int 181 0, .ref 485, .none, .none, .none, .ref 486, .int 856 0, .int 289 0, .str "/claim/cut.py" 857]), #[]⟩,
  ⟨.type "function", none, (.func ⟨"_law_middles", "_law_middles", (dOf 50 0).1, .stmts (dOf 50 0).2.1, (dOf 50 0).2.2, 3, [], .none, .none, .none, .str "law_pf0199_01" 768, none, .ref 487, .none, 0⟩), #[]⟩,
  ⟨.type "tuple", none, (.seq #[] 0), #[]⟩,
  ⟨.none, none, (.fields #[]), #[]⟩,
  ⟨.type "tuple", none, (.seq #[.str "side" 862, .str "distance" 863, .str "wide" 864, .str "scale" 865, .str "grain" 866, .str "one" 867, .str "way" 868, .str "far" 869, .str "begin" 870, .str "cosine" 871, .str "sine" 872, .str "gone" 873, .str "back" 874, .str "place" 875, .str "first" 876, .str "turn" 877, .str "mark" 878, .str "a" 879, .str "b" 880] 0), #[]⟩,
  ⟨.type "tuple", none, (.seq #[] 0), #[]⟩,
  ⟨.none, none, (.func ⟨"_law_matrix", "_law_matrix", (dOf 51 0).1, .stmts (dOf 51 0).2.1, (dOf 51 0).2.2, 0, [], .none, .none, .none, .none, none, .none, .none, 0⟩), #[]⟩,
  ⟨.type "code", none, (.fields #[.str "_law_matrix" 859, .str "_law_matrix" 860, .str "/claim/cut.py" 861, .int 298 0, .int 5 0, .int 0 0, .int 0 0, .int 3 0, .ref 489, .bool true, .int 181 0, .ref 490, .none, .ref 491, .ref 492, .ref 493, .int 881 0, .int 298 0, .str "/claim/cut.py" 882]), #[]⟩,
  ⟨.type "function", none, (.func ⟨"_law_matrix", "_law_matrix", (dOf 51 0).1, .stmts (dOf 51 0).2.1, (dOf 51 0).2.2, 3, [], .none, .none, .none, .str "law_pf0199_01" 768, none, .ref 494, .none, 0⟩), #[]⟩,
  ⟨.type "tuple", none, (.seq #[] 0), #[]⟩,
  ⟨.none, none, (.fields #[]), #[]⟩,
  ⟨.none, none, (.func ⟨"_law_due", "_law_due", (dOf 52 0).1, .stmts (dOf 52 0).2.1, (dOf 52 0).2.2, 0, [], .none, .none, .none, .none, none, .none, .none, 0⟩), #[]⟩,
  ⟨.type "code", none, (.fields #[.str "_law_due" 884, .str "_law_due" 885, .str "/claim/cut.py" 886, .int 309 0, .int 8 0, .int 0 0, .int 0 0, .int 3 0, .ref 496, .bool true, .int 181 0, .ref 497, .none, .none, .none, .ref 498, .int 887 0, .int 309 0, .str "/claim/cut.py" 888]), #[]⟩,
  ⟨.type "function", none, (.func ⟨"_law_due", "_law_due", (dOf 52 0).1, .stmts (dOf 52 0).2.1, (dOf 52 0).2.2, 3, [], .none, .none, .none, .str "law_pf0199_01" 768, none, .ref 499, .none, 0⟩), #[]⟩,
  ⟨.type "tuple", none, (.seq #[] 0), #[]⟩,
  ⟨.none, none, (.fields #[]), #[]⟩,
  ⟨.none, none, (.func ⟨"_law_right", "_law_right", (dOf 53 0).1, .stmts (dOf 53 0).2.1, (dOf 53 0).2.2, 0, [], .none, .none, .none, .none, none, .none, .none, 0⟩), #[]⟩,
  ⟨.type "code", none, (.fields #[.str "_law_right" 890, .str "_law_right" 891, .str "/claim/cut.py" 892, .int 318 0, .int 4 0, .int 0 0, .int 0 0, .int 3 0, .ref 501, .bool true, .int 181 0, .ref 502, .none, .none, .none, .ref 503, .int 893 0, .int 318 0, .str "/claim/cut.py" 894]), #[]⟩,
  ⟨.type "function", none, (.func ⟨"_law_right", "_law_right", (dOf 53 0).1, .stmts (dOf 53 0).2.1, (dOf 53 0).2.2, 3, [], .none, .none, .none, .str "law_pf0199_01" 768, none, .ref 504, .none, 0⟩), #[]⟩,
  ⟨.type "tuple", none, (.seq #[] 0), #[]⟩,
  ⟨.none, none, (.fields #[]), #[]⟩,
  ⟨.none, none, (.func ⟨"law", "law", (dOf 54 0).1, .stmts (dOf 54 0).2.1, (dOf 54 0).2.2, 0, [], .none, .none, .none, .none, none, .none, .none, 0⟩), #[]⟩,
  ⟨.type "code", none, (.fields #[.str "law" 896, .str "law" 897, .str "/claim/cut.py" 898, .int 329 0, .int 1 0, .int 0 0, .int 0 0, .int 3 0, .ref 506, .bool true, .int 181 0, .ref 507, .none, .none, .none, .ref 508, .int 899 0, .int 329 0, .str "/claim/cut.py" 900]), #[]⟩,
  ⟨.type "function", none, (.func ⟨"law", "law", (dOf 54 0).1, .stmts (dOf 54 0).2.1, (dOf 54 0).2.2, 3, [], .none, .none, .none, .str "law_pf0199_01" 768, none, .ref 509, .none, 0⟩), #[]⟩]
noncomputable def os0 (P : Params) : List Obj := ob0 P ⟨.none, none, (.dict #[] 0), #[]⟩ ⟨.type "dict", none, (.dict #[⟨PyData.keyHash P "__name__", .str "__name__" 165, .str "__main__" 164⟩, ⟨PyData.keyHash P "__doc__", .str "__doc__" 166, .none⟩, ⟨PyData.keyHash P "__package__", .str "__package__" 167, .none⟩, ⟨PyData.keyHash P "__loader__", .str "__loader__" 168, .builtin "__main__.__loader__#opaque"⟩, ⟨PyData.keyHash P "__spec__", .str "__spec__" 169, .none⟩, ⟨PyData.keyHash P "__annotations__", .str "__annotations__" 170, .ref 6⟩, ⟨PyData.keyHash P "__builtins__", .str "__builtins__" 171, .ref 4⟩, ⟨PyData.keyHash P "__file__", .str "__file__" 173, .str "/claim/cut.py" 172⟩, ⟨PyData.keyHash P "__cached__", .str "__cached__" 174, .none⟩] 9), #[]⟩ ⟨.none, none, (.fields #[]), #[]⟩
noncomputable def po0 : Pos := ⟨0, 0, 0, 0⟩
noncomputable def sa0 (w : World) (os : OsState) : SharedT := ⟨grow 12 (os0 w.params), 15, {}, #[], boot_drawn, 187, os⟩
noncomputable def os1 (P : Params) : List Obj := ob0 P ⟨.none, none, (.dict #[⟨PyData.keyHash P "type.__subclasses__.Exception.0", .str "type.__subclasses__.Exception.0" 221, .int 38 0⟩, ⟨PyData.keyHash P "type.__subclasses__.Exception.n", .str "type.__subclasses__.Exception.n" 222, .int 1 0⟩] 2), #[]⟩ ⟨.type "dict", none, (.dict #[⟨PyData.keyHash P "__name__", .str "__name__" 165, .str "outlinemill.errors" 194⟩, ⟨PyData.keyHash P "__doc__", .str "__doc__" 166, .none⟩, ⟨PyData.keyHash P "__package__", .str "__package__" 167, .none⟩, ⟨PyData.keyHash P "__loader__", .str "__loader__" 168, .builtin "__main__.__loader__#opaque"⟩, ⟨PyData.keyHash P "__spec__", .str "__spec__" 169, .none⟩, ⟨PyData.keyHash P "__annotations__", .str "__annotations__" 170, .ref 6⟩, ⟨PyData.keyHash P "__builtins__", .str "__builtins__" 171, .ref 4⟩, ⟨PyData.keyHash P "__file__", .str "__file__" 173, .str "/claim/cut.py" 172⟩, ⟨PyData.keyHash P "__cached__", .str "__cached__" 174, .none⟩, ⟨PyData.keyHash P "_wall", .str "_wall" 193, .ref 21⟩, ⟨PyData.keyHash P "MillError", .str "MillError" 224, .ref 38⟩] 11), #[]⟩ ⟨.none, none, (.fields #[.int 1 0, .int 0 0, .ref 20, .int 5 0, .int 0 0, .ref 27]), #[]⟩ ++ (ob1 P ⟨.type "type", none, (.cls ⟨"MillError", [.type "Exception"], [.ref 38, .type "Exception", .type "BaseException", .type "object"], 37, "MillError", true, [], [], false, none, false⟩), #[(some (.ref 22)), none, (some (.str "MillError" 196)), (some (.str "MillError" 204)), (some (.builtin "Exception.__new__")), (some (.bool true))]⟩)
noncomputable def po1 : Pos := ⟨5, 0, 8, 30⟩
noncomputable def sa1 (w : World) (os : OsState) : SharedT := ⟨grow 12 (os1 w.params), 42, {}, #[], boot_drawn, 225, os⟩
noncomputable def os2 (P : Params) : List Obj := ob0 P ⟨.none, none, (.dict #[⟨PyData.keyHash P "type.__subclasses__.Exception.0", .str "type.__subclasses__.Exception.0" 221, .int 38 0⟩, ⟨PyData.keyHash P "type.__subclasses__.Exception.n", .str "type.__subclasses__.Exception.n" 222, .int 1 0⟩] 2), #[]⟩ ⟨.type "dict", none, (.dict #[⟨PyData.keyHash P "__name__", .str "__name__" 165, .str "outlinemill.errors" 194⟩, ⟨PyData.keyHash P "__doc__", .str "__doc__" 166, .none⟩, ⟨PyData.keyHash P "__package__", .str "__package__" 167, .none⟩, ⟨PyData.keyHash P "__loader__", .str "__loader__" 168, .builtin "__main__.__loader__#opaque"⟩, ⟨PyData.keyHash P "__spec__", .str "__spec__" 169, .none⟩, ⟨PyData.keyHash P "__annotations__", .str "__annotations__" 170, .ref 6⟩, ⟨PyData.keyHash P "__builtins__", .str "__builtins__" 171, .ref 4⟩, ⟨PyData.keyHash P "__file__", .str "__file__" 173, .str "/claim/cut.py" 172⟩, ⟨PyData.keyHash P "__cached__", .str "__cached__" 174, .none⟩, ⟨PyData.keyHash P "_wall", .str "_wall" 193, .ref 21⟩, ⟨PyData.keyHash P "MillError", .str "MillError" 224, .ref 38⟩, ⟨PyData.keyHash P "NumberFault", .str "NumberFault" 240, .ref 51⟩, ⟨PyData.keyHash P "SheetFault", .str "SheetFault" 256, .ref 63⟩] 13), #[]⟩ ⟨.none, none, (.fields #[.int 1 0, .int 0 0, .ref 20, .int 5 0, .int 0 0, .ref 27, .int 9 0, .int 0 0, .ref 47, .int 11 0, .int 0 0, .ref 59]), #[]⟩ ++ (ob1 P ⟨.type "type", none, (.cls ⟨"MillError", [.type "Exception"], [.ref 38, .type "Exception", .type "BaseException", .type "object"], 37, "MillError", true, [], [.ref 51, .ref 63], false, none, false⟩), #[(some (.ref 22)), none, (some (.str "MillError" 196)), (some (.str "MillError" 204)), (some (.builtin "Exception.__new__")), (some (.bool true))]⟩ ++ (ob2 P))
noncomputable def po2 : Pos := ⟨11, 0, 12, 8⟩
noncomputable def sa2 (w : World) (os : OsState) : SharedT := ⟨grow 12 (os2 w.params), 66, {}, #[], boot_drawn, 257, os⟩
noncomputable def os3 (P : Params) : List Obj := ob0 P ⟨.none, none, (.dict #[⟨PyData.keyHash P "type.__subclasses__.Exception.0", .str "type.__subclasses__.Exception.0" 221, .int 38 0⟩, ⟨PyData.keyHash P "type.__subclasses__.Exception.n", .str "type.__subclasses__.Exception.n" 222, .int 1 0⟩] 2), #[]⟩ ⟨.type "dict", none, (.dict #[⟨PyData.keyHash P "__name__", .str "__name__" 165, .str "outlinemill.matrix" 342⟩, ⟨PyData.keyHash P "__doc__", .str "__doc__" 166, .none⟩, ⟨PyData.keyHash P "__package__", .str "__package__" 167, .none⟩, ⟨PyData.keyHash P "__loader__", .str "__loader__" 168, .builtin "__main__.__loader__#opaque"⟩, ⟨PyData.keyHash P "__spec__", .str "__spec__" 169, .none⟩, ⟨PyData.keyHash P "__annotations__", .str "__annotations__" 170, .ref 6⟩, ⟨PyData.keyHash P "__builtins__", .str "__builtins__" 171, .ref 4⟩, ⟨PyData.keyHash P "__file__", .str "__file__" 173, .str "/claim/cut.py" 172⟩, ⟨PyData.keyHash P "__cached__", .str "__cached__" 174, .none⟩, ⟨PyData.keyHash P "_wall", .str "_wall" 193, .ref 21⟩, ⟨PyData.keyHash P "MillError", .str "MillError" 224, .ref 38⟩, ⟨PyData.keyHash P "NumberFault", .str "NumberFault" 240, .ref 51⟩, ⟨PyData.keyHash P "SheetFault", .str "SheetFault" 256, .ref 63⟩, ⟨PyData.keyHash P "common_divisor", .str "common_divisor" 268, .ref 72⟩, ⟨PyData.keyHash P "fraction", .str "fraction" 278, .ref 80⟩, ⟨PyData.keyHash P "plus", .str "plus" 286, .ref 87⟩, ⟨PyData.keyHash P "minus", .str "minus" 294, .ref 94⟩, ⟨PyData.keyHash P "times", .str "times" 302, .ref 101⟩, ⟨PyData.keyHash P "divided", .str "divided" 310, .ref 108⟩, ⟨PyData.keyHash P "negated", .str "negated" 317, .ref 115⟩, ⟨PyData.keyHash P "sign_of", .str "sign_of" 324, .ref 122⟩, ⟨PyData.keyHash P "compare", .str "compare" 332, .ref 129⟩, ⟨PyData.keyHash P "root_floor", .str "root_floor" 341, .ref 136⟩] 23), #[]⟩ ⟨.none, none, (.fields #[.int 1 0, .int 0 0, .ref 20, .int 5 0, .int 0 0, .ref 27, .int 9 0, .int 0 0, .ref 47, .int 11 0, .int 0 0, .ref 59, .int 14 0, .int 0 0, .ref 71, .int 19 0, .int 0 0, .ref 79, .int 26 0, .int 0 0, .ref 86, .int 28 0, .int 0 0, .ref 93, .int 30 0, .int 0 0, .ref 100, .int 32 0, .int 0 0, .ref 107, .int 36 0, .int 0 0, .ref 114, .int 38 0, .int 0 0, .ref 121, .int 44 0, .int 0 0, .ref 128, .int 46 0, .int 0 0, .ref 135]), #[]⟩ ++ (ob1 P ⟨.type "type", none, (.cls ⟨"MillError", [.type "Exception"], [.ref 38, .type "Exception", .type "BaseException", .type "object"], 37, "MillError", true, [], [.ref 51, .ref 63], false, none, false⟩), #[(some (.ref 22)), none, (some (.str "MillError" 196)), (some (.str "MillError" 204)), (some (.builtin "Exception.__new__")), (some (.bool true))]⟩ ++ (ob2 P ++ (ob3 P)))
noncomputable def po3 : Pos := ⟨59, 0, 59, 8⟩
noncomputable def sa3 (w : World) (os : OsState) : SharedT := ⟨grow 12 (os3 w.params), 137, {}, #[], boot_drawn, 344, os⟩
noncomputable def os4 (P : Params) : List Obj := ob0 P ⟨.none, none, (.dict #[⟨PyData.keyHash P "type.__subclasses__.Exception.0", .str "type.__subclasses__.Exception.0" 221, .int 38 0⟩, ⟨PyData.keyHash P "type.__subclasses__.Exception.n", .str "type.__subclasses__.Exception.n" 222, .int 1 0⟩] 2), #[]⟩ ⟨.type "dict", none, (.dict #[⟨PyData.keyHash P "__name__", .str "__name__" 165, .str "outlinemill.matrix" 342⟩, ⟨PyData.keyHash P "__doc__", .str "__doc__" 166, .none⟩, ⟨PyData.keyHash P "__package__", .str "__package__" 167, .none⟩, ⟨PyData.keyHash P "__loader__", .str "__loader__" 168, .builtin "__main__.__loader__#opaque"⟩, ⟨PyData.keyHash P "__spec__", .str "__spec__" 169, .none⟩, ⟨PyData.keyHash P "__annotations__", .str "__annotations__" 170, .ref 6⟩, ⟨PyData.keyHash P "__builtins__", .str "__builtins__" 171, .ref 4⟩, ⟨PyData.keyHash P "__file__", .str "__file__" 173, .str "/claim/cut.py" 172⟩, ⟨PyData.keyHash P "__cached__", .str "__cached__" 174, .none⟩, ⟨PyData.keyHash P "_wall", .str "_wall" 193, .ref 21⟩, ⟨PyData.keyHash P "MillError", .str "MillError" 224, .ref 38⟩, ⟨PyData.keyHash P "NumberFault", .str "NumberFault" 240, .ref 51⟩, ⟨PyData.keyHash P "SheetFault", .str "SheetFault" 256, .ref 63⟩, ⟨PyData.keyHash P "common_divisor", .str "common_divisor" 268, .ref 72⟩, ⟨PyData.keyHash P "fraction", .str "fraction" 278, .ref 80⟩, ⟨PyData.keyHash P "plus", .str "plus" 286, .ref 87⟩, ⟨PyData.keyHash P "minus", .str "minus" 294, .ref 94⟩, ⟨PyData.keyHash P "times", .str "times" 302, .ref 101⟩, ⟨PyData.keyHash P "divided", .str "divided" 310, .ref 108⟩, ⟨PyData.keyHash P "negated", .str "negated" 317, .ref 115⟩, ⟨PyData.keyHash P "sign_of", .str "sign_of" 324, .ref 122⟩, ⟨PyData.keyHash P "compare", .str "compare" 332, .ref 129⟩, ⟨PyData.keyHash P "root_floor", .str "root_floor" 341, .ref 136⟩, ⟨PyData.keyHash P "Matrix", .str "Matrix" 431, .ref 195⟩] 24), #[]⟩ ⟨.none, none, (.fields #[.int 1 0, .int 0 0, .ref 20, .int 5 0, .int 0 0, .ref 27, .int 9 0, .int 0 0, .ref 47, .int 11 0, .int 0 0, .ref 59, .int 14 0, .int 0 0, .ref 71, .int 19 0, .int 0 0, .ref 79, .int 26 0, .int 0 0, .ref 86, .int 28 0, .int 0 0, .ref 93, .int 30 0, .int 0 0, .ref 100, .int 32 0, .int 0 0, .ref 107, .int 36 0, .int 0 0, .ref 114, .int 38 0, .int 0 0, .ref 121, .int 44 0, .int 0 0, .ref 128, .int 46 0, .int 0 0, .ref 135, .int 60 0, .int 0 0, .ref 142]), #[]⟩ ++ (ob1 P ⟨.type "type", none, (.cls ⟨"MillError", [.type "Exception"], [.ref 38, .type "Exception", .type "BaseException", .type "object"], 37, "MillError", true, [], [.ref 51, .ref 63], false, none, false⟩), #[(some (.ref 22)), none, (some (.str "MillError" 196)), (some (.str "MillError" 204)), (some (.builtin "Exception.__new__")), (some (.bool true))]⟩ ++ (ob2 P ++ (ob3 P ++ (ob4 P))))
noncomputable def po4 : Pos := ⟨60, 0, 88, 16⟩
noncomputable def sa4 (w : World) (os : OsState) : SharedT := ⟨grow 12 (os4 w.params), 200, {}, #[], boot_drawn, 432, os⟩
noncomputable def os5 (P : Params) : List Obj := ob0 P ⟨.none, none, (.dict #[⟨PyData.keyHash P "type.__subclasses__.Exception.0", .str "type.__subclasses__.Exception.0" 221, .int 38 0⟩, ⟨PyData.keyHash P "type.__subclasses__.Exception.n", .str "type.__subclasses__.Exception.n" 222, .int 1 0⟩] 2), #[]⟩ ⟨.type "dict", none, (.dict #[⟨PyData.keyHash P "__name__", .str "__name__" 165, .str "outlinemill.outlines" 432⟩, ⟨PyData.keyHash P "__doc__", .str "__doc__" 166, .none⟩, ⟨PyData.keyHash P "__package__", .str "__package__" 167, .none⟩, ⟨PyData.keyHash P "__loader__", .str "__loader__" 168, .builtin "__main__.__loader__#opaque"⟩, ⟨PyData.keyHash P "__spec__", .str "__spec__" 169, .none⟩, ⟨PyData.keyHash P "__annotations__", .str "__annotations__" 170, .ref 6⟩, ⟨PyData.keyHash P "__builtins__", .str "__builtins__" 171, .ref 4⟩, ⟨PyData.keyHash P "__file__", .str "__file__" 173, .str "/claim/cut.py" 172⟩, ⟨PyData.keyHash P "__cached__", .str "__cached__" 174, .none⟩, ⟨PyData.keyHash P "_wall", .str "_wall" 193, .ref 21⟩, ⟨PyData.keyHash P "MillError", .str "MillError" 224, .ref 38⟩, ⟨PyData.keyHash P "NumberFault", .str "NumberFault" 240, .ref 51⟩, ⟨PyData.keyHash P "SheetFault", .str "SheetFault" 256, .ref 63⟩, ⟨PyData.keyHash P "common_divisor", .str "common_divisor" 268, .ref 72⟩, ⟨PyData.keyHash P "fraction", .str "fraction" 278, .ref 80⟩, ⟨PyData.keyHash P "plus", .str "plus" 286, .ref 87⟩, ⟨PyData.keyHash P "minus", .str "minus" 294, .ref 94⟩, ⟨PyData.keyHash P "times", .str "times" 302, .ref 101⟩, ⟨PyData.keyHash P "divided", .str "divided" 310, .ref 108⟩, ⟨PyData.keyHash P "negated", .str "negated" 317, .ref 115⟩, ⟨PyData.keyHash P "sign_of", .str "sign_of" 324, .ref 122⟩, ⟨PyData.keyHash P "compare", .str "compare" 332, .ref 129⟩, ⟨PyData.keyHash P "root_floor", .str "root_floor" 341, .ref 136⟩, ⟨PyData.keyHash P "Matrix", .str "Matrix" 431, .ref 195⟩, ⟨PyData.keyHash P "Outline", .str "Outline" 497, .ref 243⟩] 25), #[]⟩ ⟨.none, none, (.fields #[.int 1 0, .int 0 0, .ref 20, .int 5 0, .int 0 0, .ref 27, .int 9 0, .int 0 0, .ref 47, .int 11 0, .int 0 0, .ref 59, .int 14 0, .int 0 0, .ref 71, .int 19 0, .int 0 0, .ref 79, .int 26 0, .int 0 0, .ref 86, .int 28 0, .int 0 0, .ref 93, .int 30 0, .int 0 0, .ref 100, .int 32 0, .int 0 0, .ref 107, .int 36 0, .int 0 0, .ref 114, .int 38 0, .int 0 0, .ref 121, .int 44 0, .int 0 0, .ref 128, .int 46 0, .int 0 0, .ref 135, .int 60 0, .int 0 0, .ref 142, .int 90 0, .int 0 0, .ref 205]), #[]⟩ ++ (ob1 P ⟨.type "type", none, (.cls ⟨"MillError", [.type "Exception"], [.ref 38, .type "Exception", .type "BaseException", .type "object"], 37, "MillError", true, [], [.ref 51, .ref 63], false, none, false⟩), #[(some (.ref 22)), none, (some (.str "MillError" 196)), (some (.str "MillError" 204)), (some (.builtin "Exception.__new__")), (some (.bool true))]⟩ ++ (ob2 P ++ (ob3 P ++ (ob4 P ++ (ob5 P)))))
noncomputable def po5 : Pos := ⟨90, 0, 114, 16⟩
noncomputable def sa5 (w : World) (os : OsState) : SharedT := ⟨grow 12 (os5 w.params), 248, {}, #[], boot_drawn, 498, os⟩
noncomputable def os6 (P : Params) : List Obj := ob0 P ⟨.none, none, (.dict #[⟨PyData.keyHash P "type.__subclasses__.Exception.0", .str "type.__subclasses__.Exception.0" 221, .int 38 0⟩, ⟨PyData.keyHash P "type.__subclasses__.Exception.n", .str "type.__subclasses__.Exception.n" 222, .int 1 0⟩] 2), #[]⟩ ⟨.type "dict", none, (.dict #[⟨PyData.keyHash P "__name__", .str "__name__" 165, .str "outlinemill.text_line" 541⟩, ⟨PyData.keyHash P "__doc__", .str "__doc__" 166, .none⟩, ⟨PyData.keyHash P "__package__", .str "__package__" 167, .none⟩, ⟨PyData.keyHash P "__loader__", .str "__loader__" 168, .builtin "__main__.__loader__#opaque"⟩, ⟨PyData.keyHash P "__spec__", .str "__spec__" 169, .none⟩, ⟨PyData.keyHash P "__annotations__", .str "__annotations__" 170, .ref 6⟩, ⟨PyData.keyHash P "__builtins__", .str "__builtins__" 171, .ref 4⟩, ⟨PyData.keyHash P "__file__", .str "__file__" 173, .str "/claim/cut.py" 172⟩, ⟨PyData.keyHash P "__cached__", .str "__cached__" 174, .none⟩, ⟨PyData.keyHash P "_wall", .str "_wall" 193, .ref 21⟩, ⟨PyData.keyHash P "MillError", .str "MillError" 224, .ref 38⟩, ⟨PyData.keyHash P "NumberFault", .str "NumberFault" 240, .ref 51⟩, ⟨PyData.keyHash P "SheetFault", .str "SheetFault" 256, .ref 63⟩, ⟨PyData.keyHash P "common_divisor", .str "common_divisor" 268, .ref 72⟩, ⟨PyData.keyHash P "fraction", .str "fraction" 278, .ref 80⟩, ⟨PyData.keyHash P "plus", .str "plus" 286, .ref 87⟩, ⟨PyData.keyHash P "minus", .str "minus" 294, .ref 94⟩, ⟨PyData.keyHash P "times", .str "times" 302, .ref 101⟩, ⟨PyData.keyHash P "divided", .str "divided" 310, .ref 108⟩, ⟨PyData.keyHash P "negated", .str "negated" 317, .ref 115⟩, ⟨PyData.keyHash P "sign_of", .str "sign_of" 324, .ref 122⟩, ⟨PyData.keyHash P "compare", .str "compare" 332, .ref 129⟩, ⟨PyData.keyHash P "root_floor", .str "root_floor" 341, .ref 136⟩, ⟨PyData.keyHash P "Matrix", .str "Matrix" 431, .ref 195⟩, ⟨PyData.keyHash P "Outline", .str "Outline" 497, .ref 243⟩, ⟨PyData.keyHash P "spot", .str "spot" 504, .ref 254⟩, ⟨PyData.keyHash P "middle", .str "middle" 512, .ref 261⟩, ⟨PyData.keyHash P "begin_of", .str "begin_of" 519, .ref 268⟩, ⟨PyData.keyHash P "contour_segments", .str "contour_segments" 531, .ref 275⟩, ⟨PyData.keyHash P "segments_of", .str "segments_of" 540, .ref 282⟩, ⟨PyData.keyHash P "ANCHORS", .str "ANCHORS" 546, .ref 283⟩, ⟨PyData.keyHash P "Letter", .str "Letter" 579, .ref 300⟩] 32), #[]⟩ ⟨.none, none, (.fields #[.int 1 0, .int 0 0, .ref 20, .int 5 0, .int 0 0, .ref 27, .int 9 0, .int 0 0, .ref 47, .int 11 0, .int 0 0, .ref 59, .int 14 0, .int 0 0, .ref 71, .int 19 0, .int 0 0, .ref 79, .int 26 0, .int 0 0, .ref 86, .int 28 0, .int 0 0, .ref 93, .int 30 0, .int 0 0, .ref 100, .int 32 0, .int 0 0, .ref 107, .int 36 0, .int 0 0, .ref 114, .int 38 0, .int 0 0, .ref 121, .int 44 0, .int 0 0, .ref 128, .int 46 0, .int 0 0, .ref 135, .int 60 0, .int 0 0, .ref 142, .int 90 0, .int 0 0, .ref 205, .int 115 0, .int 0 0, .ref 253, .int 117 0, .int 0 0, .ref 260, .int 119 0, .int 0 0, .ref 267, .int 125 0, .int 0 0, .ref 274, .int 141 0, .int 0 0, .ref 281, .int 149 0, .int 0 0, .ref 289]), #[]⟩ ++ (ob1 P ⟨.type "type", none, (.cls ⟨"MillError", [.type "Exception"], [.ref 38, .type "Exception", .type "BaseException", .type "object"], 37, "MillError", true, [], [.ref 51, .ref 63], false, none, false⟩), #[(some (.ref 22)), none, (some (.str "MillError" 196)), (some (.str "MillError" 204)), (some (.builtin "Exception.__new__")), (some (.bool true))]⟩ ++ (ob2 P ++ (ob3 P ++ (ob4 P ++ (ob5 P ++ (ob6 P))))))
noncomputable def po6 : Pos := ⟨149, 0, 154, 26⟩
noncomputable def sa6 (w : World) (os : OsState) : SharedT := ⟨grow 12 (os6 w.params), 305, {}, #[], boot_drawn, 580, os⟩
noncomputable def os7 (P : Params) : List Obj := ob0 P ⟨.none, none, (.dict #[⟨PyData.keyHash P "type.__subclasses__.Exception.0", .str "type.__subclasses__.Exception.0" 221, .int 38 0⟩, ⟨PyData.keyHash P "type.__subclasses__.Exception.n", .str "type.__subclasses__.Exception.n" 222, .int 1 0⟩] 2), #[]⟩ ⟨.type "dict", none, (.dict #[⟨PyData.keyHash P "__name__", .str "__name__" 165, .str "outlinemill.text_path" 619⟩, ⟨PyData.keyHash P "__doc__", .str "__doc__" 166, .none⟩, ⟨PyData.keyHash P "__package__", .str "__package__" 167, .none⟩, ⟨PyData.keyHash P "__loader__", .str "__loader__" 168, .builtin "__main__.__loader__#opaque"⟩, ⟨PyData.keyHash P "__spec__", .str "__spec__" 169, .none⟩, ⟨PyData.keyHash P "__annotations__", .str "__annotations__" 170, .ref 6⟩, ⟨PyData.keyHash P "__builtins__", .str "__builtins__" 171, .ref 4⟩, ⟨PyData.keyHash P "__file__", .str "__file__" 173, .str "/claim/cut.py" 172⟩, ⟨PyData.keyHash P "__cached__", .str "__cached__" 174, .none⟩, ⟨PyData.keyHash P "_wall", .str "_wall" 193, .ref 21⟩, ⟨PyData.keyHash P "MillError", .str "MillError" 224, .ref 38⟩, ⟨PyData.keyHash P "NumberFault", .str "NumberFault" 240, .ref 51⟩, ⟨PyData.keyHash P "SheetFault", .str "SheetFault" 256, .ref 63⟩, ⟨PyData.keyHash P "common_divisor", .str "common_divisor" 268, .ref 72⟩, ⟨PyData.keyHash P "fraction", .str "fraction" 278, .ref 80⟩, ⟨PyData.keyHash P "plus", .str "plus" 286, .ref 87⟩, ⟨PyData.keyHash P "minus", .str "minus" 294, .ref 94⟩, ⟨PyData.keyHash P "times", .str "times" 302, .ref 101⟩, ⟨PyData.keyHash P "divided", .str "divided" 310, .ref 108⟩, ⟨PyData.keyHash P "negated", .str "negated" 317, .ref 115⟩, ⟨PyData.keyHash P "sign_of", .str "sign_of" 324, .ref 122⟩, ⟨PyData.keyHash P "compare", .str "compare" 332, .ref 129⟩, ⟨PyData.keyHash P "root_floor", .str "root_floor" 341, .ref 136⟩, ⟨PyData.keyHash P "Matrix", .str "Matrix" 431, .ref 195⟩, ⟨PyData.keyHash P "Outline", .str "Outline" 497, .ref 243⟩, ⟨PyData.keyHash P "spot", .str "spot" 504, .ref 254⟩, ⟨PyData.keyHash P "middle", .str "middle" 512, .ref 261⟩, ⟨PyData.keyHash P "begin_of", .str "begin_of" 519, .ref 268⟩, ⟨PyData.keyHash P "contour_segments", .str "contour_segments" 531, .ref 275⟩, ⟨PyData.keyHash P "segments_of", .str "segments_of" 540, .ref 282⟩, ⟨PyData.keyHash P "ANCHORS", .str "ANCHORS" 546, .ref 283⟩, ⟨PyData.keyHash P "Letter", .str "Letter" 579, .ref 300⟩, ⟨PyData.keyHash P "length_of", .str "length_of" 587, .ref 311⟩, ⟨PyData.keyHash P "begins_of", .str "begins_of" 598, .ref 318⟩, ⟨PyData.keyHash P "anchor_shift", .str "anchor_shift" 606, .ref 325⟩, ⟨PyData.keyHash P "glyphs_of", .str "glyphs_of" 612, .ref 330⟩, ⟨PyData.keyHash P "letters_of", .str "letters_of" 618, .ref 335⟩] 37), #[]⟩ ⟨.none, none, (.fields #[.int 1 0, .int 0 0, .ref 20, .int 5 0, .int 0 0, .ref 27, .int 9 0, .int 0 0, .ref 47, .int 11 0, .int 0 0, .ref 59, .int 14 0, .int 0 0, .ref 71, .int 19 0, .int 0 0, .ref 79, .int 26 0, .int 0 0, .ref 86, .int 28 0, .int 0 0, .ref 93, .int 30 0, .int 0 0, .ref 100, .int 32 0, .int 0 0, .ref 107, .int 36 0, .int 0 0, .ref 114, .int 38 0, .int 0 0, .ref 121, .int 44 0, .int 0 0, .ref 128, .int 46 0, .int 0 0, .ref 135, .int 60 0, .int 0 0, .ref 142, .int 90 0, .int 0 0, .ref 205, .int 115 0, .int 0 0, .ref 253, .int 117 0, .int 0 0, .ref 260, .int 119 0, .int 0 0, .ref 267, .int 125 0, .int 0 0, .ref 274, .int 141 0, .int 0 0, .ref 281, .int 149 0, .int 0 0, .ref 289, .int 155 0, .int 0 0, .ref 310, .int 157 0, .int 0 0, .ref 317, .int 165 0, .int 0 0, .ref 324, .int 171 0, .int 0 0, .ref 329, .int 173 0, .int 0 0, .ref 334]), #[]⟩ ++ (ob1 P ⟨.type "type", none, (.cls ⟨"MillError", [.type "Exception"], [.ref 38, .type "Exception", .type "BaseException", .type "object"], 37, "MillError", true, [], [.ref 51, .ref 63], false, none, false⟩), #[(some (.ref 22)), none, (some (.str "MillError" 196)), (some (.str "MillError" 204)), (some (.builtin "Exception.__new__")), (some (.bool true))]⟩ ++ (ob2 P ++ (ob3 P ++ (ob4 P ++ (ob5 P ++ (ob6 P ++ (ob7 P)))))))
noncomputable def po7 : Pos := ⟨180, 0, 180, 8⟩
noncomputable def sa7 (w : World) (os : OsState) : SharedT := ⟨grow 12 (os7 w.params), 336, {}, #[], boot_drawn, 621, os⟩
noncomputable def os8 (P : Params) : List Obj := ob0 P ⟨.none, none, (.dict #[⟨PyData.keyHash P "type.__subclasses__.Exception.0", .str "type.__subclasses__.Exception.0" 221, .int 38 0⟩, ⟨PyData.keyHash P "type.__subclasses__.Exception.n", .str "type.__subclasses__.Exception.n" 222, .int 1 0⟩] 2), #[]⟩ ⟨.type "dict", none, (.dict #[⟨PyData.keyHash P "__name__", .str "__name__" 165, .str "outlinemill.text_path" 619⟩, ⟨PyData.keyHash P "__doc__", .str "__doc__" 166, .none⟩, ⟨PyData.keyHash P "__package__", .str "__package__" 167, .none⟩, ⟨PyData.keyHash P "__loader__", .str "__loader__" 168, .builtin "__main__.__loader__#opaque"⟩, ⟨PyData.keyHash P "__spec__", .str "__spec__" 169, .none⟩, ⟨PyData.keyHash P "__annotations__", .str "__annotations__" 170, .ref 6⟩, ⟨PyData.keyHash P "__builtins__", .str "__builtins__" 171, .ref 4⟩, ⟨PyData.keyHash P "__file__", .str "__file__" 173, .str "/claim/cut.py" 172⟩, ⟨PyData.keyHash P "__cached__", .str "__cached__" 174, .none⟩, ⟨PyData.keyHash P "_wall", .str "_wall" 193, .ref 21⟩, ⟨PyData.keyHash P "MillError", .str "MillError" 224, .ref 38⟩, ⟨PyData.keyHash P "NumberFault", .str "NumberFault" 240, .ref 51⟩, ⟨PyData.keyHash P "SheetFault", .str "SheetFault" 256, .ref 63⟩, ⟨PyData.keyHash P "common_divisor", .str "common_divisor" 268, .ref 72⟩, ⟨PyData.keyHash P "fraction", .str "fraction" 278, .ref 80⟩, ⟨PyData.keyHash P "plus", .str "plus" 286, .ref 87⟩, ⟨PyData.keyHash P "minus", .str "minus" 294, .ref 94⟩, ⟨PyData.keyHash P "times", .str "times" 302, .ref 101⟩, ⟨PyData.keyHash P "divided", .str "divided" 310, .ref 108⟩, ⟨PyData.keyHash P "negated", .str "negated" 317, .ref 115⟩, ⟨PyData.keyHash P "sign_of", .str "sign_of" 324, .ref 122⟩, ⟨PyData.keyHash P "compare", .str "compare" 332, .ref 129⟩, ⟨PyData.keyHash P "root_floor", .str "root_floor" 341, .ref 136⟩, ⟨PyData.keyHash P "Matrix", .str "Matrix" 431, .ref 195⟩, ⟨PyData.keyHash P "Outline", .str "Outline" 497, .ref 243⟩, ⟨PyData.keyHash P "spot", .str "spot" 504, .ref 254⟩, ⟨PyData.keyHash P "middle", .str "middle" 512, .ref 261⟩, ⟨PyData.keyHash P "begin_of", .str "begin_of" 519, .ref 268⟩, ⟨PyData.keyHash P "contour_segments", .str "contour_segments" 531, .ref 275⟩, ⟨PyData.keyHash P "segments_of", .str "segments_of" 540, .ref 282⟩, ⟨PyData.keyHash P "ANCHORS", .str "ANCHORS" 546, .ref 283⟩, ⟨PyData.keyHash P "Letter", .str "Letter" 579, .ref 300⟩, ⟨PyData.keyHash P "length_of", .str "length_of" 587, .ref 311⟩, ⟨PyData.keyHash P "begins_of", .str "begins_of" 598, .ref 318⟩, ⟨PyData.keyHash P "anchor_shift", .str "anchor_shift" 606, .ref 325⟩, ⟨PyData.keyHash P "glyphs_of", .str "glyphs_of" 612, .ref 330⟩, ⟨PyData.keyHash P "letters_of", .str "letters_of" 618, .ref 335⟩, ⟨PyData.keyHash P "PathSide", .str "PathSide" 685, .ref 380⟩] 38), #[]⟩ ⟨.none, none, (.fields #[.int 1 0, .int 0 0, .ref 20, .int 5 0, .int 0 0, .ref 27, .int 9 0, .int 0 0, .ref 47, .int 11 0, .int 0 0, .ref 59, .int 14 0, .int 0 0, .ref 71, .int 19 0, .int 0 0, .ref 79, .int 26 0, .int 0 0, .ref 86, .int 28 0, .int 0 0, .ref 93, .int 30 0, .int 0 0, .ref 100, .int 32 0, .int 0 0, .ref 107, .int 36 0, .int 0 0, .ref 114, .int 38 0, .int 0 0, .ref 121, .int 44 0, .int 0 0, .ref 128, .int 46 0, .int 0 0, .ref 135, .int 60 0, .int 0 0, .ref 142, .int 90 0, .int 0 0, .ref 205, .int 115 0, .int 0 0, .ref 253, .int 117 0, .int 0 0, .ref 260, .int 119 0, .int 0 0, .ref 267, .int 125 0, .int 0 0, .ref 274, .int 141 0, .int 0 0, .ref 281, .int 149 0, .int 0 0, .ref 289, .int 155 0, .int 0 0, .ref 310, .int 157 0, .int 0 0, .ref 317, .int 165 0, .int 0 0, .ref 324, .int 171 0, .int 0 0, .ref 329, .int 173 0, .int 0 0, .ref 334, .int 181 0, .int 0 0, .ref 341]), #[]⟩ ++ (ob1 P ⟨.type "type", none, (.cls ⟨"MillError", [.type "Exception"], [.ref 38, .type "Exception", .type "BaseException", .type "object"], 37, "MillError", true, [], [.ref 51, .ref 63], false, none, false⟩), #[(some (.ref 22)), none, (some (.str "MillError" 196)), (some (.str "MillError" 204)), (some (.builtin "Exception.__new__")), (some (.bool true))]⟩ ++ (ob2 P ++ (ob3 P ++ (ob4 P ++ (ob5 P ++ (ob6 P ++ (ob7 P ++ (ob8 P))))))))
noncomputable def po8 : Pos := ⟨181, 0, 200, 87⟩
noncomputable def sa8 (w : World) (os : OsState) : SharedT := ⟨grow 12 (os8 w.params), 385, {}, #[], boot_drawn, 686, os⟩
noncomputable def os9 (P : Params) : List Obj := ob0 P ⟨.none, none, (.dict #[⟨PyData.keyHash P "type.__subclasses__.Exception.0", .str "type.__subclasses__.Exception.0" 221, .int 38 0⟩, ⟨PyData.keyHash P "type.__subclasses__.Exception.n", .str "type.__subclasses__.Exception.n" 222, .int 1 0⟩] 2), #[]⟩ ⟨.type "dict", none, (.dict #[⟨PyData.keyHash P "__name__", .str "__name__" 165, .str "law_pf0199_01" 768⟩, ⟨PyData.keyHash P "__doc__", .str "__doc__" 166, .none⟩, ⟨PyData.keyHash P "__package__", .str "__package__" 167, .none⟩, ⟨PyData.keyHash P "__loader__", .str "__loader__" 168, .builtin "__main__.__loader__#opaque"⟩, ⟨PyData.keyHash P "__spec__", .str "__spec__" 169, .none⟩, ⟨PyData.keyHash P "__annotations__", .str "__annotations__" 170, .ref 6⟩, ⟨PyData.keyHash P "__builtins__", .str "__builtins__" 171, .ref 4⟩, ⟨PyData.keyHash P "__file__", .str "__file__" 173, .str "/claim/cut.py" 172⟩, ⟨PyData.keyHash P "__cached__", .str "__cached__" 174, .none⟩, ⟨PyData.keyHash P "_wall", .str "_wall" 193, .ref 21⟩, ⟨PyData.keyHash P "MillError", .str "MillError" 224, .ref 38⟩, ⟨PyData.keyHash P "NumberFault", .str "NumberFault" 240, .ref 51⟩, ⟨PyData.keyHash P "SheetFault", .str "SheetFault" 256, .ref 63⟩, ⟨PyData.keyHash P "common_divisor", .str "common_divisor" 268, .ref 72⟩, ⟨PyData.keyHash P "fraction", .str "fraction" 278, .ref 80⟩, ⟨PyData.keyHash P "plus", .str "plus" 286, .ref 87⟩, ⟨PyData.keyHash P "minus", .str "minus" 294, .ref 94⟩, ⟨PyData.keyHash P "times", .str "times" 302, .ref 101⟩, ⟨PyData.keyHash P "divided", .str "divided" 310, .ref 108⟩, ⟨PyData.keyHash P "negated", .str "negated" 317, .ref 115⟩, ⟨PyData.keyHash P "sign_of", .str "sign_of" 324, .ref 122⟩, ⟨PyData.keyHash P "compare", .str "compare" 332, .ref 129⟩, ⟨PyData.keyHash P "root_floor", .str "root_floor" 341, .ref 136⟩, ⟨PyData.keyHash P "Matrix", .str "Matrix" 431, .ref 195⟩, ⟨PyData.keyHash P "Outline", .str "Outline" 497, .ref 243⟩, ⟨PyData.keyHash P "spot", .str "spot" 504, .ref 254⟩, ⟨PyData.keyHash P "middle", .str "middle" 512, .ref 261⟩, ⟨PyData.keyHash P "begin_of", .str "begin_of" 519, .ref 268⟩, ⟨PyData.keyHash P "contour_segments", .str "contour_segments" 531, .ref 275⟩, ⟨PyData.keyHash P "segments_of", .str "segments_of" 540, .ref 282⟩, ⟨PyData.keyHash P "ANCHORS", .str "ANCHORS" 546, .ref 283⟩, ⟨PyData.keyHash P "Letter", .str "Letter" 579, .ref 300⟩, ⟨PyData.keyHash P "length_of", .str "length_of" 587, .ref 311⟩, ⟨PyData.keyHash P "begins_of", .str "begins_of" 598, .ref 318⟩, ⟨PyData.keyHash P "anchor_shift", .str "anchor_shift" 606, .ref 325⟩, ⟨PyData.keyHash P "glyphs_of", .str "glyphs_of" 612, .ref 330⟩, ⟨PyData.keyHash P "letters_of", .str "letters_of" 618, .ref 335⟩, ⟨PyData.keyHash P "PathSide", .str "PathSide" 685, .ref 380⟩, ⟨PyData.keyHash P "path_sides", .str "path_sides" 698, .ref 391⟩, ⟨PyData.keyHash P "path_length", .str "path_length" 705, .ref 398⟩, ⟨PyData.keyHash P "side_at", .str "side_at" 714, .ref 405⟩, ⟨PyData.keyHash P "turned_matrix", .str "turned_matrix" 729, .ref 412⟩, ⟨PyData.keyHash P "middle_along", .str "middle_along" 740, .ref 419⟩, ⟨PyData.keyHash P "path_letters", .str "path_letters" 767, .ref 427⟩, ⟨PyData.keyHash P "_law_source", .str "_law_source" 777, .ref 434⟩, ⟨PyData.keyHash P "_law_next", .str "_law_next" 786, .ref 441⟩, ⟨PyData.keyHash P "_law_pick", .str "_law_pick" 794, .ref 448⟩, ⟨PyData.keyHash P "_law_low", .str "_law_low" 805, .ref 455⟩, ⟨PyData.keyHash P "_law_sum", .str "_law_sum" 813, .ref 462⟩, ⟨PyData.keyHash P "_law_times", .str "_law_times" 821, .ref 469⟩, ⟨PyData.keyHash P "_law_path", .str "_law_path" 841, .ref 476⟩] 51), #[]⟩ ⟨.none, none, (.fields #[.int 1 0, .int 0 0, .ref 20, .int 5 0, .int 0 0, .ref 27, .int 9 0, .int 0 0, .ref 47, .int 11 0, .int 0 0, .ref 59, .int 14 0, .int 0 0, .ref 71, .int 19 0, .int 0 0, .ref 79, .int 26 0, .int 0 0, .ref 86, .int 28 0, .int 0 0, .ref 93, .int 30 0, .int 0 0, .ref 100, .int 32 0, .int 0 0, .ref 107, .int 36 0, .int 0 0, .ref 114, .int 38 0, .int 0 0, .ref 121, .int 44 0, .int 0 0, .ref 128, .int 46 0, .int 0 0, .ref 135, .int 60 0, .int 0 0, .ref 142, .int 90 0, .int 0 0, .ref 205, .int 115 0, .int 0 0, .ref 253, .int 117 0, .int 0 0, .ref 260, .int 119 0, .int 0 0, .ref 267, .int 125 0, .int 0 0, .ref 274, .int 141 0, .int 0 0, .ref 281, .int 149 0, .int 0 0, .ref 289, .int 155 0, .int 0 0, .ref 310, .int 157 0, .int 0 0, .ref 317, .int 165 0, .int 0 0, .ref 324, .int 171 0, .int 0 0, .ref 329, .int 173 0, .int 0 0, .ref 334, .int 181 0, .int 0 0, .ref 341, .int 201 0, .int 0 0, .ref 390, .int 211 0, .int 0 0, .ref 397, .int 213 0, .int 0 0, .ref 404, .int 218 0, .int 0 0, .ref 411, .int 224 0, .int 0 0, .ref 418, .int 227 0, .int 0 0, .ref 426, .int 243 0, .int 0 0, .ref 433, .int 246 0, .int 0 0, .ref 440, .int 252 0, .int 0 0, .ref 447, .int 254 0, .int 0 0, .ref 454, .int 262 0, .int 0 0, .ref 461, .int 264 0, .int 0 0, .ref 468, .int 266 0, .int 0 0, .ref 475]), #[]⟩ ++ (ob1 P ⟨.type "type", none, (.cls ⟨"MillError", [.type "Exception"], [.ref 38, .type "Exception", .type "BaseException", .type "object"], 37, "MillError", true, [], [.ref 51, .ref 63], false, none, false⟩), #[(some (.ref 22)), none, (some (.str "MillError" 196)), (some (.str "MillError" 204)), (some (.builtin "Exception.__new__")), (some (.bool true))]⟩ ++ (ob2 P ++ (ob3 P ++ (ob4 P ++ (ob5 P ++ (ob6 P ++ (ob7 P ++ (ob8 P ++ (ob9 P)))))))))
noncomputable def po9 : Pos := ⟨266, 0, 281, 52⟩
noncomputable def sa9 (w : World) (os : OsState) : SharedT := ⟨grow 12 (os9 w.params), 477, {}, #[], boot_drawn, 842, os⟩
noncomputable def os10 (P : Params) : List Obj := ob0 P ⟨.none, none, (.dict #[⟨PyData.keyHash P "type.__subclasses__.Exception.0", .str "type.__subclasses__.Exception.0" 221, .int 38 0⟩, ⟨PyData.keyHash P "type.__subclasses__.Exception.n", .str "type.__subclasses__.Exception.n" 222, .int 1 0⟩] 2), #[]⟩ ⟨.type "dict", none, (.dict #[⟨PyData.keyHash P "__name__", .str "__name__" 165, .str "law_pf0199_01" 768⟩, ⟨PyData.keyHash P "__doc__", .str "__doc__" 166, .none⟩, ⟨PyData.keyHash P "__package__", .str "__package__" 167, .none⟩, ⟨PyData.keyHash P "__loader__", .str "__loader__" 168, .builtin "__main__.__loader__#opaque"⟩, ⟨PyData.keyHash P "__spec__", .str "__spec__" 169, .none⟩, ⟨PyData.keyHash P "__annotations__", .str "__annotations__" 170, .ref 6⟩, ⟨PyData.keyHash P "__builtins__", .str "__builtins__" 171, .ref 4⟩, ⟨PyData.keyHash P "__file__", .str "__file__" 173, .str "/claim/cut.py" 172⟩, ⟨PyData.keyHash P "__cached__", .str "__cached__" 174, .none⟩, ⟨PyData.keyHash P "_wall", .str "_wall" 193, .ref 21⟩, ⟨PyData.keyHash P "MillError", .str "MillError" 224, .ref 38⟩, ⟨PyData.keyHash P "NumberFault", .str "NumberFault" 240, .ref 51⟩, ⟨PyData.keyHash P "SheetFault", .str "SheetFault" 256, .ref 63⟩, ⟨PyData.keyHash P "common_divisor", .str "common_divisor" 268, .ref 72⟩, ⟨PyData.keyHash P "fraction", .str "fraction" 278, .ref 80⟩, ⟨PyData.keyHash P "plus", .str "plus" 286, .ref 87⟩, ⟨PyData.keyHash P "minus", .str "minus" 294, .ref 94⟩, ⟨PyData.keyHash P "times", .str "times" 302, .ref 101⟩, ⟨PyData.keyHash P "divided", .str "divided" 310, .ref 108⟩, ⟨PyData.keyHash P "negated", .str "negated" 317, .ref 115⟩, ⟨PyData.keyHash P "sign_of", .str "sign_of" 324, .ref 122⟩, ⟨PyData.keyHash P "compare", .str "compare" 332, .ref 129⟩, ⟨PyData.keyHash P "root_floor", .str "root_floor" 341, .ref 136⟩, ⟨PyData.keyHash P "Matrix", .str "Matrix" 431, .ref 195⟩, ⟨PyData.keyHash P "Outline", .str "Outline" 497, .ref 243⟩, ⟨PyData.keyHash P "spot", .str "spot" 504, .ref 254⟩, ⟨PyData.keyHash P "middle", .str "middle" 512, .ref 261⟩, ⟨PyData.keyHash P "begin_of", .str "begin_of" 519, .ref 268⟩, ⟨PyData.keyHash P "contour_segments", .str "contour_segments" 531, .ref 275⟩, ⟨PyData.keyHash P "segments_of", .str "segments_of" 540, .ref 282⟩, ⟨PyData.keyHash P "ANCHORS", .str "ANCHORS" 546, .ref 283⟩, ⟨PyData.keyHash P "Letter", .str "Letter" 579, .ref 300⟩, ⟨PyData.keyHash P "length_of", .str "length_of" 587, .ref 311⟩, ⟨PyData.keyHash P "begins_of", .str "begins_of" 598, .ref 318⟩, ⟨PyData.keyHash P "anchor_shift", .str "anchor_shift" 606, .ref 325⟩, ⟨PyData.keyHash P "glyphs_of", .str "glyphs_of" 612, .ref 330⟩, ⟨PyData.keyHash P "letters_of", .str "letters_of" 618, .ref 335⟩, ⟨PyData.keyHash P "PathSide", .str "PathSide" 685, .ref 380⟩, ⟨PyData.keyHash P "path_sides", .str "path_sides" 698, .ref 391⟩, ⟨PyData.keyHash P "path_length", .str "path_length" 705, .ref 398⟩, ⟨PyData.keyHash P "side_at", .str "side_at" 714, .ref 405⟩, ⟨PyData.keyHash P "turned_matrix", .str "turned_matrix" 729, .ref 412⟩, ⟨PyData.keyHash P "middle_along", .str "middle_along" 740, .ref 419⟩, ⟨PyData.keyHash P "path_letters", .str "path_letters" 767, .ref 427⟩, ⟨PyData.keyHash P "_law_source", .str "_law_source" 777, .ref 434⟩, ⟨PyData.keyHash P "_law_next", .str "_law_next" 786, .ref 441⟩, ⟨PyData.keyHash P "_law_pick", .str "_law_pick" 794, .ref 448⟩, ⟨PyData.keyHash P "_law_low", .str "_law_low" 805, .ref 455⟩, ⟨PyData.keyHash P "_law_sum", .str "_law_sum" 813, .ref 462⟩, ⟨PyData.keyHash P "_law_times", .str "_law_times" 821, .ref 469⟩, ⟨PyData.keyHash P "_law_path", .str "_law_path" 841, .ref 476⟩, ⟨PyData.keyHash P "_law_font", .str "_law_font" 852, .ref 483⟩, ⟨PyData.keyHash P "_law_middles", .str "_law_middles" 858, .ref 488⟩, ⟨PyData.keyHash P "_law_matrix", .str "_law_matrix" 883, .ref 495⟩, ⟨PyData.keyHash P "_law_due", .str "_law_due" 889, .ref 500⟩, ⟨PyData.keyHash P "_law_right", .str "_law_right" 895, .ref 505⟩, ⟨PyData.keyHash P "law", .str "law" 901, .ref 510⟩] 57), #[]⟩ ⟨.none, none, (.fields #[.int 1 0, .int 0 0, .ref 20, .int 5 0, .int 0 0, .ref 27, .int 9 0, .int 0 0, .ref 47, .int 11 0, .int 0 0, .ref 59, .int 14 0, .int 0 0, .ref 71, .int 19 0, .int 0 0, .ref 79, .int 26 0, .int 0 0, .ref 86, .int 28 0, .int 0 0, .ref 93, .int 30 0, .int 0 0, .ref 100, .int 32 0, .int 0 0, .ref 107, .int 36 0, .int 0 0, .ref 114, .int 38 0, .int 0 0, .ref 121, .int 44 0, .int 0 0, .ref 128, .int 46 0, .int 0 0, .ref 135, .int 60 0, .int 0 0, .ref 142, .int 90 0, .int 0 0, .ref 205, .int 115 0, .int 0 0, .ref 253, .int 117 0, .int 0 0, .ref 260, .int 119 0, .int 0 0, .ref 267, .int 125 0, .int 0 0, .ref 274, .int 141 0, .int 0 0, .ref 281, .int 149 0, .int 0 0, .ref 289, .int 155 0, .int 0 0, .ref 310, .int 157 0, .int 0 0, .ref 317, .int 165 0, .int 0 0, .ref 324, .int 171 0, .int 0 0, .ref 329, .int 173 0, .int 0 0, .ref 334, .int 181 0, .int 0 0, .ref 341, .int 201 0, .int 0 0, .ref 390, .int 211 0, .int 0 0, .ref 397, .int 213 0, .int 0 0, .ref 404, .int 218 0, .int 0 0, .ref 411, .int 224 0, .int 0 0, .ref 418, .int 227 0, .int 0 0, .ref 426, .int 243 0, .int 0 0, .ref 433, .int 246 0, .int 0 0, .ref 440, .int 252 0, .int 0 0, .ref 447, .int 254 0, .int 0 0, .ref 454, .int 262 0, .int 0 0, .ref 461, .int 264 0, .int 0 0, .ref 468, .int 266 0, .int 0 0, .ref 475, .int 282 0, .int 0 0, .ref 482, .int 289 0, .int 0 0, .ref 487, .int 298 0, .int 0 0, .ref 494, .int 309 0, .int 0 0, .ref 499, .int 318 0, .int 0 0, .ref 504, .int 329 0, .int 0 0, .ref 509]), #[]⟩ ++ (ob1 P ⟨.type "type", none, (.cls ⟨"MillError", [.type "Exception"], [.ref 38, .type "Exception", .type "BaseException", .type "object"], 37, "MillError", true, [], [.ref 51, .ref 63], false, none, false⟩), #[(some (.ref 22)), none, (some (.str "MillError" 196)), (some (.str "MillError" 204)), (some (.builtin "Exception.__new__")), (some (.bool true))]⟩ ++ (ob2 P ++ (ob3 P ++ (ob4 P ++ (ob5 P ++ (ob6 P ++ (ob7 P ++ (ob8 P ++ (ob9 P ++ (ob10 P))))))))))
noncomputable def po10 : Pos := ⟨329, 0, 343, 100⟩
noncomputable def sa10 (w : World) (os : OsState) : SharedT := ⟨grow 12 (os10 w.params), 511, {}, #[], boot_drawn, 902, os⟩
theorem se0 : ∀ w os, segRunT treeTable pw w 11 annE 1 267 (sa0 w os) (piecesOf ((bE.drop 0).take 3) envE (.body bE envE) po0 [topFrame pos0]) = some (.next, sa1 w os, .body bE envE, po1) := by
  intro w os
  walk_at "twins"
  kernel_rfl
theorem se1 : ∀ w os, segRunT treeTable pw w 11 annE 1 427 (sa1 w os) (piecesOf ((bE.drop 3).take 2) envE (.body bE envE) po1 [topFrame pos0]) = some (.next, sa2 w os, .body bE envE, po2) := by
  intro w os
  walk_at "twins"
  kernel_rfl
theorem se2 : ∀ w os, segRunT treeTable pw w 11 annE 1 323 (sa2 w os) (piecesOf ((bE.drop 5).take 12) envE (.body bE envE) po2 [topFrame pos0]) = some (.next, sa3 w os, .body bE envE, po3) := by
  intro w os
  walk_at "twins"
  kernel_rfl
theorem se3 : ∀ w os, segRunT treeTable pw w 11 annE 1 426 (sa3 w os) (piecesOf ((bE.drop 17).take 1) envE (.body bE envE) po3 [topFrame pos0]) = some (.next, sa4 w os, .body bE envE, po4) := by
  intro w os
  walk_at "twins"
  kernel_rfl
theorem se4 : ∀ w os, segRunT treeTable pw w 11 annE 1 362 (sa4 w os) (piecesOf ((bE.drop 18).take 2) envE (.body bE envE) po4 [topFrame pos0]) = some (.next, sa5 w os, .body bE envE, po5) := by
  intro w os
  walk_at "twins"
  kernel_rfl
theorem se5 : ∀ w os, segRunT treeTable pw w 11 annE 1 402 (sa5 w os) (piecesOf ((bE.drop 20).take 8) envE (.body bE envE) po5 [topFrame pos0]) = some (.next, sa6 w os, .body bE envE, po6) := by
  intro w os
  walk_at "twins"
  kernel_rfl
theorem se6 : ∀ w os, segRunT treeTable pw w 11 annE 1 155 (sa6 w os) (piecesOf ((bE.drop 28).take 6) envE (.body bE envE) po6 [topFrame pos0]) = some (.next, sa7 w os, .body bE envE, po7) := by
  intro w os
  walk_at "twins"
  kernel_rfl
theorem se7 : ∀ w os, segRunT treeTable pw w 11 annE 1 355 (sa7 w os) (piecesOf ((bE.drop 34).take 1) envE (.body bE envE) po7 [topFrame pos0]) = some (.next, sa8 w os, .body bE envE, po8) := by
  intro w os
  walk_at "twins"
  kernel_rfl
theorem se8 : ∀ w os, segRunT treeTable pw w 11 annE 1 451 (sa8 w os) (piecesOf ((bE.drop 35).take 14) envE (.body bE envE) po8 [topFrame pos0]) = some (.next, sa9 w os, .body bE envE, po9) := by
  intro w os
  walk_at "twins"
  kernel_rfl
theorem se9 : ∀ w os, segRunT treeTable pw w 11 annE 1 185 (sa9 w os) (piecesOf ((bE.drop 49).take 6) envE (.body bE envE) po9 [topFrame pos0]) = some (.next, sa10 w os, .body bE envE, po10) := by
  intro w os
  walk_at "twins"
  kernel_rfl
theorem seg_step {w : World} {a b c n N : Nat} {s s' : SharedT} {r : Shared} {p p' : Pos} (hc : a + b = c)
    (h : segRunT treeTable pw w 11 annE 1 n s (piecesOf ((bE.drop a).take b) envE (.body bE envE) p [topFrame pos0]) = some (.next, s', .body bE envE, p'))
    (k : topRun treeTable pw w 11 annE N s'.abs (restOf (bE.drop c) envE (.body bE envE) p' [topFrame pos0]) = some r) :
    topRun treeTable pw w 11 annE (n + N) s.abs (restOf (bE.drop a) envE (.body bE envE) p [topFrame pos0]) = some r := by
  subst hc
  have e : bE.drop a = (bE.drop a).take b ++ bE.drop (a + b) := by rw [← List.drop_drop, List.take_append_drop]
  rw [e]
  exact piece_app (segRun_of h) k
def heapE (P : Params) : Heap := ⟨(os10 P).toArray, {}⟩
theorem rows_end : bE.drop 55 = [] := by kernel_rfl
theorem fin_ok : ∀ w os, topRun treeTable pw w 11 annE 2 (sa10 w os).abs ⟨doneF .next, .body bE envE, po10, [topFrame pos0]⟩ = some ⟨heapE w.params, Array.mk [], boot_drawn, 902, os⟩ := by
  intro w os; kernel_rfl
theorem pre_ok : ∀ w os, topGo treeTable pw w 11 annE 12 ⟨boot_heap w.params, Array.mk [], boot_drawn, boot_toks, os⟩ (topStub pw) = some ((sa0 w os).abs, ⟨denote treeTable (.body bE envE), .body bE envE, po0, [topFrame pos0]⟩) := by
  intro w os; kernel_rfl
theorem block_ok : ∀ w s, segRun treeTable pw w 11 annE 1 1 s (blockOf bE envE (.body bE envE) po0 [topFrame pos0]) = some (.next, s, .body bE envE, po0) := by
  intro w s; kernel_rfl
theorem open_ok : opening pw = plainProg pw.main.scope.names := by kernel_rfl
theorem fence_ok : ∀ s, fenceModules? pw s = some s := by intro s; kernel_rfl
theorem size_ok : ∀ w : World, ((boot_heap w.params).isNs mainGlobals && (Array.mk [] : Array GenState).size == 0, (boot_heap w.params).objs.size, (boot_heap w.params).nsMap mainGlobals "__annotations__") = (true, 11, annE) := by
  intro w; kernel_rfl
theorem run_ok (w : World) (os : OsState) : topRun treeTable pw w 11 annE 3368 ⟨boot_heap w.params, Array.mk [], boot_drawn, boot_toks, os⟩ (topStub pw) = some ⟨heapE w.params, Array.mk [], boot_drawn, 902, os⟩ := by
  rw [show (3368 : Nat) = 12 + (1 + (267 + (427 + (323 + (426 + (362 + (402 + (155 + (355 + (451 + (185 + (2)))))))))))) from rfl]
  have k10 := piece_nil (env := envE) (fin_ok w os)
  rw [← rows_end] at k10
  have k9 := seg_step (b := 6) rfl (se9 w os) k10
  have k8 := seg_step (b := 14) rfl (se8 w os) k9
  have k7 := seg_step (b := 1) rfl (se7 w os) k8
  have k6 := seg_step (b := 6) rfl (se6 w os) k7
  have k5 := seg_step (b := 8) rfl (se5 w os) k6
  have k4 := seg_step (b := 2) rfl (se4 w os) k5
  have k3 := seg_step (b := 1) rfl (se3 w os) k4
  have k2 := seg_step (b := 12) rfl (se2 w os) k3
  have k1 := seg_step (b := 2) rfl (se1 w os) k2
  have k0 := seg_step (b := 3) rfl (se0 w os) k1
  rw [List.drop_zero] at k0
  exact go_top (pre_ok w os) (piece_block (block_ok w _) k0)
end
def keepL : List Nat := [0, 2, 3, 4, 6, 8, 9, 10, 11, 12, 13, 14, 15, 17, 19, 20, 21, 22, 23, 24, 26, 27, 28, 29, 30, 31, 32, 34, 35, 36, 37, 38, 39, 42, 43, 44, 45, 46, 47, 48, 49, 50, 51, 52, 53, 54]
def topQ : Program := view pw keepL
def looseL : List PySem.Str := ["fraction", "Outline", "path_letters"]
abbrev rowO : OpenRow := PySem.Challenge.rw_pf0199_01.row
set_option maxHeartbeats 8000000
abbrev tests : Shared → Bool := fun s => xlAt topQ [] s && recOk (RowW.records rowO.toRowW) s
theorem seen_ok : ∀ (w : World) (os : OsState), (staticsOk (importedModules pw.main.body) (boot_heap w.params) (heapE w.params) && namesBound pw (heapE w.params) && gensDone ⟨heapE w.params, Array.mk [], boot_drawn, 902, os⟩ && laidKept (boot_heap w.params) (heapE w.params),
    openSeen topQ looseL (importedModules pw.main.body) tests true ⟨heapE w.params, Array.mk [], boot_drawn, 902, os⟩) = (true, openGood topQ looseL) := by
  intro w os; kernel_rfl
theorem opens : ∀ w : World, (fencedOpening treeTable pw w 7000).map (fun s => (s.heap, s.gens, s.drawn, s.toks)) = some (boot_heap w.params, Array.mk [], boot_drawn, boot_toks) := boot_open open_ok rfl fence_ok
theorem left_of {α : Type} {Yf : Shared → α} {Ya : World → α} (h : ∀ (w : World) (os : OsState), Yf ⟨heapE w.params, Array.mk [], boot_drawn, 902, os⟩ = Ya w) : LeftO pw topQ looseL tests Yf Ya 7000 :=
  LeftO.of_pieces (M := 3368) opens size_ok run_ok rfl fun w => funext fun os => by
    obtain ⟨e1, e2⟩ := Prod.mk.inj (seen_ok w os)
    exact Prod.ext e1 (Prod.ext e2 (h w os))
theorem my_head (H : Hook) (said : rowO.wellSaid = true) (h : ∀ (w : World) (os : OsState), H.obs ⟨heapE w.params, Array.mk [], boot_drawn, 902, os⟩ = H.val w)
    {d : DefRec} {kwd : List (PySem.Str × Expr)} (hd : defOf topQ rowO.name = some (d, kwd)) (hp : rowO.prog.theDef rowO.name = some (d.params, d.body, d.scope)) (hk : kwWritten? d.params.kwonlyargs d.params.kw_defaults = some kwd)
    (hw : rowO.toRowW.promised) (hc : WalkO topQ looseL (XL topQ []) H.says rowO.toRowW d kwd fun f vs => PySem.call f vs) : rowO.Holds :=
  PySem.W.holds_open (q := topQ) (loose := looseL) (Xt := tests) (XP := XL topQ []) (Yf := H.obs) (Ya := H.val) (YP := H.says) (N := 7000) (left_of h) H.of H.keeps
    (fun s e => xl_of s (Bool.and_eq_true_iff.mp e).1) XL.keeps hd hp hk (fun s e => recFacts_of (Bool.and_eq_true_iff.mp e).2) rfl said (by decide +kernel) ⟨rfl, rfl, rfl, rfl, rfl, by decide +kernel⟩ hw hc
theorem my_said : PySem.Challenge.rw_pf0199_01.wellSaid = true := by
  try rw [PySem.W.Fast.te9446332074065402090]
  kernel_rfl
set_option hygiene false
local macro_rules | `(tactic| o_law) => `(tactic| refine holds_law my_said fun said => ?_)
local macro_rules | `(tactic| o_head $H) => `(tactic| (
  refine my_head $H said ?hl (by rfl) (by rfl) (by rfl) ?hw ?hc
  case hl =>
    intro w os
    kernel_rfl
  clear said))
set_option hygiene true
open_top hd for PySem.Challenge.rw_pf0199_01
end Mine
open PySem.Calls PySem.Spec
namespace Mine
noncomputable abbrev Led := List (Addr × Obj)
noncomputable abbrev Kn := Addr → Obj → Prop
/-- what is told of a thing that turns -/
structure SO where
  P : Kn → Obj → Prop
  mono : ∀ {Z Z' : Kn} {o : Obj}, (∀ a o, Z a o → Z' a o) → P Z o → P Z' o
noncomputable abbrev Sg := List (Addr × SO)
inductive Rl (Z : Kn) : Sg → Led → Prop
  | nil : Rl Z [] []
  | cons {a : Addr} {P : SO} {o : Obj} {σ : Sg} {σo : Led} (h : P.P Z o) (r : Rl Z σ σo) : Rl Z ((a, P) :: σ) ((a, o) :: σo)
theorem Rl.mono {Z Z' : Kn} (k : ∀ a o, Z a o → Z' a o) : ∀ {σ : Sg} {σo : Led}, Rl Z σ σo → Rl Z' σ σo
  | _, _, .nil => .nil
  | (_, P) :: _, _, .cons h r => .cons (P.mono k h) (r.mono k)
theorem Rl.fst {Z : Kn} : ∀ {σ : Sg} {σo : Led}, Rl Z σ σo → σo.map (·.1) = σ.map (·.1)
  | _, _, .nil => rfl
  | _, _, .cons _ r => by simp only [List.map_cons]; rw [r.fst]
theorem Rl.app {Z : Kn} {τ : Sg} {τo : Led} (k : Rl Z τ τo) : ∀ {σ : Sg} {σo : Led}, Rl Z σ σo → Rl Z (σ ++ τ) (σo ++ τo)
  | _, _, .nil => k
  | _, _, .cons h r => .cons h (Rl.app k r)
theorem Rl.split {Z : Kn} : ∀ {σ τ : Sg} {l : Led}, Rl Z (σ ++ τ) l → ∃ σo τo, l = σo ++ τo ∧ Rl Z σ σo ∧ Rl Z τ τo
  | [], _, l, h => ⟨[], l, rfl, .nil, h⟩
  | _ :: _, _, _, .cons h r => by
    obtain ⟨σo, τo, rfl, h1, h2⟩ := r.split
    exact ⟨_ :: σo, τo, rfl, .cons h h1, h2⟩
/-- told to the sign -/
noncomputable def same_ (x : Obj) : SO := ⟨fun _ o => o = x, fun _ h => h⟩
noncomputable def exact_ (E : Led) : Sg := E.map fun p => (p.1, same_ p.2)
theorem Rl.exact_ {Z : Kn} : ∀ (E : Led), Rl Z (Mine.exact_ E) E
  | [] => .nil
  | (_, _) :: r => .cons rfl (Rl.exact_ r)
theorem Rl.exact_eq {Z : Kn} : ∀ {E E' : Led}, Rl Z (Mine.exact_ E) E' → E' = E
  | [], _, .nil => rfl
  | (_, _) :: _, _, .cons h r => by rw [Rl.exact_eq r, show _ = _ from h]
noncomputable abbrev PG : Program := PySem.Challenge.rw_pf0199_01.row.prog
noncomputable abbrev NoE : Value → Shared → Prop := fun _ _ => False

/-- a lambda's own text -/
structure Lam where
  name : Str
  qual : Str
  params : Arguments
  body : Expr
  scope : Scope
noncomputable abbrev Lam.fd (k : Lam) (clos : List (Str × Addr)) (pm : Value) (c : Addr) (ctv : Value) : FuncData :=
  { name := k.name, qualname := k.qual, params := k.params, body := .expr k.body, scope := k.scope, globals := mainGlobals, closure := clos, defaults := .none, kwdefaults := .none, doc := .none, pyModule := pm, annotations := none, code := .ref c, closureTuple := ctv, builtins := builtinsNs }
/-- what a value stands for, as a tree -/
inductive D where
  | val (v : Value)
  | none
  | bool (b : Bool)
  | int (n : Int)
  | str (x : Str)
  | tup (ds : List D)
  | lst (ds : List D)
  | obj (C : Addr) (fs : List (Str × D))
  | fn (k : Lam) (caps : List (Str × D))

mutual
inductive Is (Z : Kn) : D → Value → Prop
  | val (v : Value) : Is Z (.val v) v
  | none : Is Z .none .none
  | bool (b : Bool) : Is Z (.bool b) (.bool b)
  | int (n : Int) (t : Tok) : Is Z (.int n) (.int n t)
  | str (x : Str) (t : Tok) : Is Z (.str x) (.str x t)
  | tup {a : Addr} {o : Obj} {vs : List Value} {n : Nat} {ds : List D} (h : Z a o) (hc : o.cls = .type "tuple") (hd : o.data = .seq vs.toArray n) (hl : IsL Z ds vs) : Is Z (.tup ds) (.ref a)
  | lst {a : Addr} {o : Obj} {vs : List Value} {n : Nat} {ds : List D} (h : Z a o) (hc : o.cls = .type "list") (hd : o.data = .seq vs.toArray n) (hl : IsL Z ds vs) : Is Z (.lst ds) (.ref a)
  | obj {x dx C : Addr} {ox : Obj} {es : List DictEntry} {n : Nat} {fs : List (Str × D)} (h : Z x ox) (hc : ox.cls = .ref C) (hn : notCls ox = true) (hd : ox.dict = some dx) (hz : Z dx (dictOf es n)) (hf : IsF Z fs es) : Is Z (.obj C fs) (.ref x)
  | fn {f c : Addr} {fo co : Obj} {k : Lam} {clos : List (Str × Addr)} {pm ctv : Value} {caps : List (Str × D)} (h : Z f fo) (hc : fo.cls = .type "function") (hd : fo.data = .func (k.fd clos pm c ctv)) (hz : Z c co) (hq : ∃ vs t, co.data = .fields vs ∧ vs[1]? = some (.str k.qual t)) (hcl : IsC Z caps clos) : Is Z (.fn k caps) (.ref f)
inductive IsC (Z : Kn) : List (Str × D) → List (Str × Addr) → Prop
  | nil : IsC Z [] []
  | cons {x : Str} {d : D} {v : Value} {ca : Addr} {co : Obj} {caps : List (Str × D)} {clos : List (Str × Addr)} (h : Z ca co) (hd : co.data = .cell (some v)) (i : Is Z d v) (r : IsC Z caps clos) : IsC Z ((x, d) :: caps) ((x, ca) :: clos)
inductive IsL (Z : Kn) : List D → List Value → Prop
  | nil : IsL Z [] []
  | cons {d : D} {v : Value} {ds : List D} {vs : List Value} (h : Is Z d v) (r : IsL Z ds vs) : IsL Z (d :: ds) (v :: vs)
inductive IsF (Z : Kn) : List (Str × D) → List DictEntry → Prop
  | nil : IsF Z [] []
  | cons {x : Str} {d : D} {fs : List (Str × D)} {h : Int} {t : Tok} {v : Value} {es : List DictEntry} (i : Is Z d v) (r : IsF Z fs es) : IsF Z ((x, d) :: fs) (⟨h, .str x t, v⟩ :: es)
end

mutual
theorem Is.mono {Z Z' : Kn} (k : ∀ a o, Z a o → Z' a o) : ∀ {d : D} {v : Value}, Is Z d v → Is Z' d v
  | _, _, .val v => .val v
  | _, _, .none => .none
  | _, _, .bool b => .bool b
  | _, _, .int n t => .int n t
  | _, _, .str x t => .str x t
  | _, _, .tup h hc hd hl => .tup (k _ _ h) hc hd (hl.mono k)
  | _, _, .lst h hc hd hl => .lst (k _ _ h) hc hd (hl.mono k)
  | _, _, .obj h hc hn hd hz hf => .obj (k _ _ h) hc hn hd (k _ _ hz) (hf.mono k)
  | _, _, .fn h hc hd hz hq hcl => .fn (k _ _ h) hc hd (k _ _ hz) hq (hcl.mono k)
theorem IsC.mono {Z Z' : Kn} (k : ∀ a o, Z a o → Z' a o) : ∀ {caps : List (Str × D)} {clos : List (Str × Addr)}, IsC Z caps clos → IsC Z' caps clos
  | _, _, .nil => .nil
  | _, _, .cons h hd i r => .cons (k _ _ h) hd (i.mono k) (r.mono k)
theorem IsL.mono {Z Z' : Kn} (k : ∀ a o, Z a o → Z' a o) : ∀ {ds : List D} {vs : List Value}, IsL Z ds vs → IsL Z' ds vs
  | _, _, .nil => .nil
  | _, _, .cons h r => .cons (h.mono k) (r.mono k)
theorem IsF.mono {Z Z' : Kn} (k : ∀ a o, Z a o → Z' a o) : ∀ {fs : List (Str × D)} {es : List DictEntry}, IsF Z fs es → IsF Z' fs es
  | _, _, .nil => .nil
  | _, _, .cons h r => .cons (h.mono k) (r.mono k)
end

theorem IsL.length {Z : Kn} : ∀ {ds : List D} {vs : List Value}, IsL Z ds vs → vs.length = ds.length
  | _, _, .nil => rfl
  | _, _, .cons _ r => by simp [r.length]
theorem IsL.append {Z : Kn} {ds' : List D} {vs' : List Value} (h' : IsL Z ds' vs') : ∀ {ds : List D} {vs : List Value}, IsL Z ds vs → IsL Z (ds ++ ds') (vs ++ vs')
  | _, _, .nil => h'
  | _, _, .cons h r => .cons h (IsL.append h' r)
theorem IsL.get {Z : Kn} : ∀ {ds : List D} {vs : List Value}, IsL Z ds vs → ∀ {i : Nat} {d : D}, ds[i]? = some d → ∃ v, vs[i]? = some v ∧ Is Z d v
  | _, _, .nil, _, _, h => by simp at h
  | _, _, .cons h r, 0, _, e => by simp at e; subst e; exact ⟨_, rfl, h⟩
  | _, _, .cons h r, i + 1, _, e => by
    obtain ⟨v, hv, hi⟩ := r.get (i := i) (by simpa using e)
    exact ⟨v, by simpa using hv, hi⟩
theorem IsL.get' {Z : Kn} : ∀ {ds : List D} {vs : List Value}, IsL Z ds vs → ∀ {i : Nat} {v : Value}, vs[i]? = some v → ∃ d, ds[i]? = some d ∧ Is Z d v
  | _, _, .nil, _, _, h => by simp at h
  | _, _, .cons h r, 0, _, e => by simp at e; subst e; exact ⟨_, rfl, h⟩
  | _, _, .cons h r, i + 1, _, e => by
    obtain ⟨v, hv, hi⟩ := r.get' (i := i) (by simpa using e)
    exact ⟨v, by simpa using hv, hi⟩

/-- what stays the same while one call of a def runs -/
structure Cx where
  w : World
  p : Program
  loose : List Str
  mg : Str → Option Value
  mb : Str → Option Value
  A : Around
  cn : Str
  L : Addr
  a : Addr
  ccd : Value
  cl : List (Str × Addr)
  g : Heap
  gens : Array GenState
  drawn : Drawn
  os : OsState
  Z0 : Kn
  room : Nat
/-- what a lambda's making reads -/
structure Ground (mg : Str → Option Value) (g : Heap) : Prop where
  bm : ∃ bm ob, mg "__builtins__" = some (.ref bm) ∧ bm ≠ builtinsNs ∧ g.get? bm = some ob ∧ ob.cls = .type "module" ∧ ob.dict = some builtinsNs ∧ ob.data = .plain
  code : CodeHd g 482 478
theorem Ground.keeps {mg : Str → Option Value} {g g' : Heap} (G : Ground mg g) (k : ∀ b o, g.get? b = some o → g'.get? b = some o) : Ground mg g' :=
  ⟨let ⟨bm, ob, a, b, e, r⟩ := G.bm; ⟨bm, ob, a, b, k _ _ e, r⟩, G.code.keeps k⟩
structure Cx.Ok (c : Cx) : Prop where
  K : (hd.heap_1 c.w.params).In c.g
  top : TopRead c.p c.loose c.mg c.mb c.g
  handled : c.A.handled = none
  depth : c.A.depth + c.room < recursionLimit
  units : c.A.units + 8 * c.room + 64 < cLine
  gr : Ground c.mg c.g

/-- a comprehension's block -/
structure Kp where
  scope : Scope
  cl : List (Str × Addr)
  C : Addr
noncomputable def envAt (c : Cx) (S : Scope) : Option Kp → Env
  | none => envX c.cn S c.L c.a c.ccd c.cl
  | some k => compEnvC k.scope k.cl k.C (envX c.cn S c.L c.a c.ccd c.cl)
noncomputable abbrev Cx.env (c : Cx) (S : Scope) : Env := envX c.cn S c.L c.a c.ccd c.cl

inductive B where
  | val (d : D)
  | own (l : Addr) (ds : List D)
  | obj (x₀ dx C : Addr) (fs : List (Str × D))
  | unset
  | froz (d : D)
noncomputable abbrev lstO (vs : List Value) (n : Nat) : Obj := { cls := .type "list", data := .seq vs.toArray n }
noncomputable abbrev Rho := List (Str × B)
noncomputable abbrev Own := List (Str × Addr × Obj)

structure Core (c : Cx) (κ : Option Kp) (σ : Led) (Z : Kn) (own : Own) (m lm : Str → Option Value) (s : Shared) : Prop where
  ok : c.Ok
  sh : s = ⟨s.heap, c.gens, c.drawn, s.toks, c.os⟩
  fr : Fr c.g c.L s.heap m
  sg : News c.g c.L s.heap σ
  ow : News c.g c.L s.heap (own.map (·.2))
  dj : ((own.map (·.2)) ++ σ).Pairwise (fun p q => p.1 ≠ q.1)
  zk : ∀ a o, Z a o → s.heap.get? a = some o ∧ a ≠ c.L ∧ (∀ p ∈ own, a ≠ p.2.1) ∧ (∀ p ∈ σ, a ≠ p.1) ∧ (c.Z0 a o ∨ c.g.get? a = none)
  z0 : ∀ a o, c.Z0 a o → Z a o
  kp : ∀ k, κ = some k → s.heap.Ns k.C lm ∧ k.C ≠ c.L ∧ (∀ p ∈ own, k.C ≠ p.2.1) ∧ (∀ p ∈ σ, k.C ≠ p.1) ∧ (∀ o, ¬ Z k.C o) ∧ c.g.get? k.C = none ∧ k.scope.kind = .function

/-- what a name's box bears -/
inductive BIs (Z : Kn) (own : Own) (x : Str) : B → Value → Prop
  | val {d : D} {v : Value} (h : Is Z d v) : BIs Z own x (.val d) v
  | own {ds : List D} {l : Addr} {o : Obj} {vs : List Value} {n : Nat} (hm : (x, l, o) ∈ own) (ho : o = lstO vs n) (hl : IsL Z ds vs) : BIs Z own x (.own l ds) (.ref l)
  | obj {C x₀ dx : Addr} {ox : Obj} {es : List DictEntry} {n : Nat} {fs : List (Str × D)} (hx : Z x₀ ox) (hc : ox.cls = .ref C) (hn : notCls ox = true) (hd : ox.dict = some dx) (hm : (x, dx, dictOf es n) ∈ own) (hf : IsF Z fs es) : BIs Z own x (.obj x₀ dx C fs) (.ref x₀)
inductive VarIs (c : Cx) (S : Scope) (Z : Kn) (own : Own) (m : Str → Option Value) : Str → B → Prop
  | loc {x : Str} {b : B} {v : Value} (hk : S.names.lookup x = some .local) (hv : m x = some v) (h : BIs Z own x b v) : VarIs c S Z own m x b
  | cell {x : Str} {d : D} {v : Value} {ca : Addr} {o : Obj} (hk : S.names.lookup x = some .cell) (hc : c.cl.lookup x = some ca) (hm : (x, ca, o) ∈ own) (hd : o.data = .cell (some v)) (h : Is Z d v) : VarIs c S Z own m x (.val d)
  | free {x : Str} {d : D} {v : Value} {ca : Addr} {o : Obj} (hk : S.names.lookup x = some .free) (hc : c.cl.lookup x = some ca) (hz : Z ca o) (hd : o.data = .cell (some v)) (h : Is Z d v) : VarIs c S Z own m x (.val d)
  | frozen {x : Str} {d : D} {v : Value} {ca : Addr} {o : Obj} (hk : S.names.lookup x = some .cell) (hc : c.cl.lookup x = some ca) (hz : Z ca o) (hd : o.data = .cell (some v)) (h : Is Z d v) : VarIs c S Z own m x (.froz d)
  | unset {x : Str} {ca : Addr} {o : Obj} (hk : S.names.lookup x = some .cell) (hc : c.cl.lookup x = some ca) (hm : (x, ca, o) ∈ own) (hd : o.data = .cell none) : VarIs c S Z own m x .unset

theorem BIs.mono {Z Z' : Kn} {own : Own} {x : Str} {b : B} {v : Value} (k : ∀ a o, Z a o → Z' a o) (h : BIs Z own x b v) : BIs Z' own x b v := by
  cases h with
  | val h => exact .val (h.mono k)
  | own hm ho hl => exact .own hm ho (hl.mono k)
  | obj hx hc hn hd hm hf => exact .obj (k _ _ hx) hc hn hd hm (hf.mono k)
theorem VarIs.mono {c : Cx} {S : Scope} {Z Z' : Kn} {own : Own} {m : Str → Option Value} {x : Str} {b : B} (k : ∀ a o, Z a o → Z' a o) (h : VarIs c S Z own m x b) : VarIs c S Z' own m x b := by
  cases h with
  | loc hk hv h => exact .loc hk hv (h.mono k)
  | cell hk hc hm hd h => exact .cell hk hc hm hd (h.mono k)
  | free hk hc hz hd h => exact .free hk hc (k _ _ hz) hd (h.mono k)
  | frozen hk hc hz hd h => exact .frozen hk hc (k _ _ hz) hd (h.mono k)
  | unset hk hc hm hd => exact .unset hk hc hm hd

structure FsAt (c : Cx) (S : Scope) (κ : Option Kp) (σ : Led) (ρ : Rho) (lv : List (Str × D)) (T : List (Value × D)) (s : Shared) (Z : Kn) (own : Own) (m lm : Str → Option Value) : Prop where
  core : Core c κ σ Z own m lm s
  fn : S.kind = .function
  var : ∀ x b, ρ.lookup x = some b → VarIs c S Z own m x b
  lov : ∀ x d, lv.lookup x = some d → ∃ v, lm x = some v ∧ Is Z d v
  tmp : ∀ p ∈ T, Is Z p.2 p.1
noncomputable def Fs (c : Cx) (S : Scope) (κ : Option Kp) (σ : Sg) (ρ : Rho) (lv : List (Str × D)) (T : List (Value × D)) (s : Shared) : Prop :=
  ∃ σo Z, Rl Z σ σo ∧ ∃ own m lm, FsAt c S κ σo ρ lv T s Z own m lm

/-- an expression comes to d; nothing that stood is changed but what σ tells -/
noncomputable def Ev (c : Cx) (S : Scope) (κ : Option Kp) (σ : Sg) (ρ : Rho) (lv : List (Str × D)) (e : Expr) (σ' : Sg) (d : D) : Prop :=
  ∀ T s Q, Fs c S κ σ ρ lv T s → (∀ v s', Fs c S κ σ' ρ lv ((v, d) :: T) s' → Q v s') → wpAny (model PG c.w) c.A (eval e (envAt c S κ)) Q NoE s
/-- a test comes to b -/
noncomputable def Tv (c : Cx) (S : Scope) (κ : Option Kp) (σ : Sg) (ρ : Rho) (lv : List (Str × D)) (e : Expr) (σ' : Sg) (b : Bool) : Prop :=
  ∀ T s Q, Fs c S κ σ ρ lv T s → (∀ s', Fs c S κ σ' ρ lv T s' → Q b s') → wpAny (model PG c.w) c.A (isTrue e (envAt c S κ) (eval e (envAt c S κ))) Q NoE s

theorem Fs.weaken {c : Cx} {S : Scope} {κ : Option Kp} {σ : Sg} {ρ ρ' : Rho} {lv lv' : List (Str × D)} {T T' : List (Value × D)} {s : Shared} (F : Fs c S κ σ ρ lv T s)
    (h1 : ∀ x b, ρ'.lookup x = some b → ρ.lookup x = some b) (h2 : ∀ x d, lv'.lookup x = some d → lv.lookup x = some d) (h3 : ∀ p ∈ T', p ∈ T) : Fs c S κ σ ρ' lv' T' s := by
  obtain ⟨σo, Z, hσ, own, m, lm, F⟩ := F
  exact ⟨σo, Z, hσ, own, m, lm, F.core, F.fn, fun x b e => F.var x b (h1 x b e), fun x d e => F.lov x d (h2 x d e), fun p hp => F.tmp p (h3 p hp)⟩
theorem Fs.temps {c : Cx} {S : Scope} {κ : Option Kp} {σ : Sg} {ρ : Rho} {lv : List (Str × D)} {T T' : List (Value × D)} {s : Shared} (F : Fs c S κ σ ρ lv T s) (h3 : ∀ p ∈ T', p ∈ T) : Fs c S κ σ ρ lv T' s :=
  F.weaken (fun _ _ h => h) (fun _ _ h => h) h3

/-- the heap has grown and kept all, no name has turned -/
theorem Core.grow {c : Cx} {κ : Option Kp} {σ : Led} {Z : Kn} {own : Own} {m lm : Str → Option Value} {s : Shared} (F : Core c κ σ Z own m lm s) {h' : Heap} (tk : Nat)
    (k : ∀ b o, s.heap.get? b = some o → h'.get? b = some o) : Core c κ σ Z own m lm { s with heap := h', toks := tk } where
  ok := F.ok
  sh := by have := F.sh; cases s; simp_all
  fr := F.fr.keeps k
  sg := F.sg.keeps k
  ow := F.ow.keeps k
  dj := F.dj
  zk := fun a o h => ⟨k _ _ (F.zk a o h).1, (F.zk a o h).2⟩
  z0 := F.z0
  kp := fun k' e => ⟨(F.kp k' e).1.keeps k, (F.kp k' e).2⟩
theorem Fs.grow {c : Cx} {S : Scope} {κ : Option Kp} {σ : Sg} {ρ : Rho} {lv : List (Str × D)} {T : List (Value × D)} {s : Shared} (F : Fs c S κ σ ρ lv T s) {h' : Heap} (tk : Nat)
    (k : ∀ b o, s.heap.get? b = some o → h'.get? b = some o) : Fs c S κ σ ρ lv T { s with heap := h', toks := tk } := by
  obtain ⟨σo, Z, hσ, own, m, lm, F⟩ := F
  exact ⟨σo, Z, hσ, own, m, lm, F.core.grow tk k, F.fn, F.var, F.lov, F.tmp⟩
theorem Fs.tick {c : Cx} {S : Scope} {κ : Option Kp} {σ : Sg} {ρ : Rho} {lv : List (Str × D)} {T : List (Value × D)} {s : Shared} (F : Fs c S κ σ ρ lv T s) (tk : Nat) : Fs c S κ σ ρ lv T { s with toks := tk } :=
  F.grow (h' := s.heap) tk fun _ _ e => e
theorem Fs.push {c : Cx} {S : Scope} {κ : Option Kp} {σ : Sg} {ρ : Rho} {lv : List (Str × D)} {T : List (Value × D)} {s : Shared} (F : Fs c S κ σ ρ lv T s) {v : Value} {d : D} (h : ∀ Z, Is Z d v) : Fs c S κ σ ρ lv ((v, d) :: T) s := by
  obtain ⟨σo, Z, hσ, own, m, lm, F⟩ := F
  refine ⟨σo, Z, hσ, own, m, lm, F.core, F.fn, F.var, F.lov, fun p hp => ?_⟩
  rcases List.mem_cons.mp hp with rfl | hp
  · exact h Z
  · exact F.tmp p hp

/-- knowledge of a fresh object is taken up -/
theorem Core.learn {c : Cx} {κ : Option Kp} {σ : Led} {Z : Kn} {own : Own} {m lm : Str → Option Value} {s : Shared} (F : Core c κ σ Z own m lm s) {W : Kn} {h' : Heap} (tk : Nat)
    (k : ∀ b o, s.heap.get? b = some o → h'.get? b = some o) (hw : ∀ a o, W a o → h'.get? a = some o) (hf : ∀ a o, W a o → s.heap.get? a = none) :
    Core c κ σ (fun a o => Z a o ∨ W a o) own m lm { s with heap := h', toks := tk } where
  ok := F.ok
  sh := by have := F.sh; cases s; simp_all
  fr := F.fr.keeps k
  sg := F.sg.keeps k
  ow := F.ow.keeps k
  dj := F.dj
  zk := fun a o h => by
    rcases h with h | h
    · exact ⟨k _ _ (F.zk a o h).1, (F.zk a o h).2⟩
    · have hn := hf a o h
      have ne : ∀ {b : Addr} {ob : Obj}, s.heap.get? b = some ob → a ≠ b := fun e q => by rw [q, e] at hn; cases hn
      refine ⟨hw a o h, ?_, fun p hp => ne (F.ow _ (List.mem_map_of_mem hp)).1, fun p hp => ne (F.sg p hp).1, .inr ?_⟩
      · obtain ⟨oL, _, _, hL, _⟩ := F.fr.ns
        exact ne hL
      · cases q : c.g.get? a with
        | none => rfl
        | some o' => exact absurd rfl (ne (F.fr.keep _ _ q))
  z0 := fun a o h => .inl (F.z0 a o h)
  kp := fun k' e => by
    obtain ⟨h1, h2, h3, h4, h5, h6⟩ := F.kp k' e
    refine ⟨h1.keeps k, h2, h3, h4, fun o ho => ?_, h6⟩
    rcases ho with ho | ho
    · exact h5 o ho
    · obtain ⟨oC, _, _, hC, _⟩ := h1
      have := hf _ _ ho
      rw [hC] at this; cases this
theorem Fs.learn {c : Cx} {S : Scope} {κ : Option Kp} {σ : Sg} {ρ : Rho} {lv : List (Str × D)} {T : List (Value × D)} {s : Shared} (F : Fs c S κ σ ρ lv T s) {W : Kn} {h' : Heap} (tk : Nat) {v : Value} {d : D}
    (k : ∀ b o, s.heap.get? b = some o → h'.get? b = some o) (hw : ∀ a o, W a o → h'.get? a = some o) (hf : ∀ a o, W a o → s.heap.get? a = none)
    (hv : ∀ Z : Kn, (∀ p ∈ T, Is Z p.2 p.1) → Is (fun a o => Z a o ∨ W a o) d v) : Fs c S κ σ ρ lv ((v, d) :: T) { s with heap := h', toks := tk } := by
  obtain ⟨σo, Z, hσ, own, m, lm, F⟩ := F
  have le : ∀ a o, Z a o → Z a o ∨ W a o := fun _ _ h => .inl h
  refine ⟨σo, fun a o => Z a o ∨ W a o, hσ.mono le, own, m, lm, F.core.learn tk k hw hf, F.fn, fun x b e => (F.var x b e).mono le, fun x d e => ?_, fun p hp => ?_⟩
  · obtain ⟨v, e, h⟩ := F.lov x d e
    exact ⟨v, e, h.mono le⟩
  · rcases List.mem_cons.mp hp with rfl | hp
    · exact hv Z F.tmp
    · exact (F.tmp p hp).mono le
end Mine
namespace Mine
section
variable {c : Cx} {S : Scope} {κ : Option Kp} {σ σ1 σ2 σ3 : Sg} {ρ : Rho} {lv : List (Str × D)} {T : List (Value × D)} {s : Shared}

theorem Fs.is {v : Value} {d : D} (F : Fs c S κ σ ρ lv T s) (h : (v, d) ∈ T) : ∃ Z, Is Z d v := by
  obtain ⟨σo, Z, hσ, own, m, lm, F⟩ := F
  exact ⟨Z, F.tmp _ h⟩
theorem Fs.isInt {v : Value} {n : Int} (F : Fs c S κ σ ρ lv T s) (h : (v, D.int n) ∈ T) : ∃ t, v = .int n t := by
  obtain ⟨Z, h⟩ := F.is h
  cases h; exact ⟨_, rfl⟩
theorem Fs.isStr {v : Value} {x : Str} (F : Fs c S κ σ ρ lv T s) (h : (v, D.str x) ∈ T) : ∃ t, v = .str x t := by
  obtain ⟨Z, h⟩ := F.is h
  cases h; exact ⟨_, rfl⟩
theorem Fs.isBool {v : Value} {b : Bool} (F : Fs c S κ σ ρ lv T s) (h : (v, D.bool b) ∈ T) : v = .bool b := by
  obtain ⟨Z, h⟩ := F.is h
  cases h; rfl
theorem Fs.isNone {v : Value} (F : Fs c S κ σ ρ lv T s) (h : (v, D.none) ∈ T) : v = .none := by
  obtain ⟨Z, h⟩ := F.is h
  cases h; rfl
theorem Fs.isVal {v u : Value} (F : Fs c S κ σ ρ lv T s) (h : (v, D.val u) ∈ T) : v = u := by
  obtain ⟨Z, h⟩ := F.is h
  cases h; rfl

theorem Ev.int {i : Int} {k : Nat} {pos : Pos} : Ev c S κ σ ρ lv (.Constant (.int i) k pos) σ (.int i) := fun T s Q F h =>
  wpAny_Constant_int (h _ _ ((F.tick _).push fun Z => .int i _))
theorem Ev.str {x : Str} {k : Nat} {pos : Pos} : Ev c S κ σ ρ lv (.Constant (.str x) k pos) σ (.str x) := fun T s Q F h =>
  wpAny_Constant_str (h _ _ ((F.tick _).push fun Z => .str x _))
theorem Ev.bool {b : Bool} {k : Nat} {pos : Pos} : Ev c S κ σ ρ lv (.Constant (.bool b) k pos) σ (.bool b) := fun T s Q F h =>
  wpAny_Constant_bool (h _ _ (F.push fun Z => .bool b))
theorem Ev.none {k : Nat} {pos : Pos} : Ev c S κ σ ρ lv (.Constant .none k pos) σ .none := fun T s Q F h =>
  wpAny_Constant_none (h _ _ (F.push fun Z => .none))

/-- a name of the def's own -/
theorem Ev.name {x : Str} {d : D} {pos : Pos} (hm : ρ.lookup x = some (.val d)) (hk : S.names.lookup x = some .local := by rfl) (hd : (x == ("__debug__" : Str)) = false := by decide) :
    Ev c S .none σ ρ lv (.Name x pos) σ d := fun T s Q F h => by
  obtain ⟨σo, Z, hσ, own, m, lm, F⟩ := F
  cases F.var _ _ hm with
  | cell hk' _ _ _ _ => rw [hk] at hk'; cases hk'
  | free hk' _ _ _ _ => rw [hk] at hk'; cases hk'
  | loc hk' hv hb =>
    cases hb with
    | val hi =>
      refine wpAny_Name (wpAny_loadName_local F.fn hk F.core.fr.ns hv (h _ _ ⟨σo, Z, hσ, own, m, lm, F.core, F.fn, F.var, F.lov, fun p hp => ?_⟩)) hd
      rcases List.mem_cons.mp hp with rfl | hp
      · exact hi
      · exact F.tmp p hp
/-- a name of the def's that lies in a cell -/
theorem Ev.nameC {x : Str} {d : D} {pos : Pos} (hm : ρ.lookup x = some (.val d)) (hk : S.names.lookup x = some .cell := by rfl) (hd : (x == ("__debug__" : Str)) = false := by decide) :
    Ev c S .none σ ρ lv (.Name x pos) σ d := fun T s Q F h => by
  obtain ⟨σo, Z, hσ, own, m, lm, F⟩ := F
  cases F.var _ _ hm with
  | loc hk' hv hb => rw [hk] at hk'; cases hk'
  | free hk' _ _ _ _ => rw [hk] at hk'; cases hk'
  | cell _ hc hm' hdat hi =>
    refine wpAny_Name (wpAny_loadName_cell F.fn hk hc ⟨_, (F.core.ow _ (List.mem_map_of_mem hm')).1, hdat⟩ (h _ _ ⟨σo, Z, hσ, own, m, lm, F.core, F.fn, F.var, F.lov, fun p hp => ?_⟩)) hd
    rcases List.mem_cons.mp hp with rfl | hp
    · exact hi
    · exact F.tmp p hp
/-- a free name (a lambda's) -/
theorem Ev.nameF {x : Str} {d : D} {pos : Pos} (hm : ρ.lookup x = some (.val d)) (hk : S.names.lookup x = some .free := by rfl) (hd : (x == ("__debug__" : Str)) = false := by decide) (hn : (x == ("__classdict__" : Str)) = false := by decide) :
    Ev c S .none σ ρ lv (.Name x pos) σ d := fun T s Q F h => by
  obtain ⟨σo, Z, hσ, own, m, lm, F⟩ := F
  cases F.var _ _ hm with
  | loc hk' hv hb => rw [hk] at hk'; cases hk'
  | cell hk' _ _ _ _ => rw [hk] at hk'; cases hk'
  | free _ hc hz hdat hi =>
    refine wpAny_Name (wpAny_loadName_free F.fn hk hc ⟨_, (F.core.zk _ _ hz).1, hdat⟩ (h _ _ ⟨σo, Z, hσ, own, m, lm, F.core, F.fn, F.var, F.lov, fun p hp => ?_⟩) hn) hd
    rcases List.mem_cons.mp hp with rfl | hp
    · exact hi
    · exact F.tmp p hp

/-- the scope that names are sought in -/
noncomputable def scopeAt (S : Scope) : Option Kp → Scope
  | .none => S
  | .some k => relabel k.scope (envX default S default default default [])
theorem Core.glob {σ : Led} {Z : Kn} {own : Own} {m lm : Str → Option Value} (F : Core c κ σ Z own m lm s) : (hd.heap_1 c.w.params).In s.heap ∧ TopRead c.p c.loose c.mg c.mb s.heap :=
  ⟨F.ok.K.keeps F.fr.keep, F.ok.top.keeps F.fr.keep⟩
theorem Fs.K (F : Fs c S κ σ ρ lv T s) : (hd.heap_1 c.w.params).In s.heap := by
  obtain ⟨σo, Z, hσ, own, m, lm, F⟩ := F
  exact F.core.glob.1
theorem Fs.top (F : Fs c S κ σ ρ lv T s) : TopRead c.p c.loose c.mg c.mb s.heap := by
  obtain ⟨σo, Z, hσ, own, m, lm, F⟩ := F
  exact F.core.glob.2
theorem Fs.ok (F : Fs c S κ σ ρ lv T s) : c.Ok := by
  obtain ⟨σo, Z, hσ, own, m, lm, F⟩ := F
  exact F.core.ok
theorem Fs.fnKind (F : Fs c S κ σ ρ lv T s) : S.kind = .function := by
  obtain ⟨σo, Z, hσ, own, m, lm, F⟩ := F
  exact F.fn
theorem Fs.kpKind {k : Kp} (F : Fs c S (.some k) σ ρ lv T s) : k.scope.kind = .function := by
  obtain ⟨σo, Z, hσ, own, m, lm, F⟩ := F
  exact (F.core.kp k rfl).2.2.2.2.2.2

theorem globals_at : (envAt c S κ).globals = mainGlobals := by cases κ <;> rfl
theorem builtins_at : (envAt c S κ).builtins = builtinsNs := by cases κ <;> rfl
theorem Fs.kindAt (F : Fs c S κ σ ρ lv T s) : (envAt c S κ).scope.kind = .function := by
  cases κ with
  | none => exact F.fnKind
  | some k => exact F.kpKind

/-- a name of the module's top: its value is written -/
structure Gl (w : World) (x : Str) (f : Value) : Prop where
  at_ : nsIn (hd.heap_1 w.params) mainGlobals x = some (some f)
  keep : keepIn (hd.heap_1 w.params) f = true
theorem name_glob {x : Str} {f : Value} {pos : Pos} {Q : Value → Shared → Prop} (F : Fs c S κ σ ρ lv T s) (g : nsIn (hd.heap_1 c.w.params) mainGlobals x = some (some f)) (h : Q f s)
    (hk : (envAt c S κ).kindOf x = some .globalImplicit) (hd : (x == ("__debug__" : Str)) = false) : wpAny (model PG c.w) c.A (eval (.Name x pos) (envAt c S κ)) Q NoE s :=
  Name_function_global F.kindAt hk (loadGlobal_global (by rw [globals_at]; exact F.top.g) (mg_of F.K F.top.g g) h) hd
theorem name_boot {x : Str} {f : Value} {pos : Pos} {Q : Value → Shared → Prop} (F : Fs c S κ σ ρ lv T s) (g : nsIn (hd.heap_1 c.w.params) mainGlobals x = some none) (hv : bootBuiltins x = some f) (hn : x ≠ "__name__") (h : Q f s)
    (hk : (envAt c S κ).kindOf x = some .globalImplicit) (hd : (x == ("__debug__" : Str)) = false) : wpAny (model PG c.w) c.A (eval (.Name x pos) (envAt c S κ)) Q NoE s :=
  Name_function_global F.kindAt hk (loadGlobal_builtin (by rw [globals_at]; exact F.top.g) (mg_none_of F.K F.top.g g) (by rw [builtins_at]; exact F.top.b) ((F.top.builtins x hn).trans hv) h) hd

/-- arguments, one behind the other -/
noncomputable def zipT (vs : List Value) (ds : List D) (T : List (Value × D)) : List (Value × D) := vs.zip ds ++ T
noncomputable def EvL (c : Cx) (S : Scope) (κ : Option Kp) (σ : Sg) (ρ : Rho) (lv : List (Str × D)) (es : List Expr) (σ' : Sg) (ds : List D) : Prop := ds.length = es.length ∧
  ∀ T pos s Q, Fs c S κ σ ρ lv T s → (∀ vs s', vs.length = ds.length → Fs c S κ σ' ρ lv (zipT vs ds T) s' → Q vs s') → wpAny (model PG c.w) c.A (spliced (backTo pos (starEach es (envAt c S κ)))) Q NoE s
theorem EvL.nil : EvL c S κ σ ρ lv [] σ [] := ⟨rfl, fun T pos s Q F h => spliced_none (h [] s rfl F)⟩
theorem EvL.cons {e : Expr} {es : List Expr} {d : D} {ds : List D} (h1 : Ev c S κ σ ρ lv e σ1 d) (h2 : EvL c S κ σ1 ρ lv es σ2 ds)
    (he : ∀ env, starEach (e :: es) env = (false, eval e env) :: starEach es env := by intro _; rfl) : EvL c S κ σ ρ lv (e :: es) σ2 (d :: ds) := ⟨by simp [h2.1], fun T pos s Q F h => by
  refine spliced_more (h1 T s _ F fun v s1 F1 => h2.2 _ pos s1 _ F1 fun vs s2 hl F2 => h _ _ (by simp [hl]) (F2.temps fun p hp => ?_)) (he _)
  rcases List.mem_append.mp hp with hp | hp
  · rcases List.mem_cons.mp hp with rfl | hp
    · exact List.mem_append_right _ (.head _)
    · exact List.mem_append_left _ hp
  · exact List.mem_append_right _ (.tail _ hp)⟩
theorem IsL.of_zip {Z : Kn} : ∀ {vs : List Value} {ds : List D}, vs.length = ds.length → (∀ p ∈ vs.zip ds, Is Z p.2 p.1) → IsL Z ds vs
  | [], [], _, _ => .nil
  | v :: vs, d :: ds, hl, h => .cons (h (v, d) (.head _)) (IsL.of_zip (by simpa using hl) fun p hp => h p (.tail _ hp))
  | [], _ :: _, hl, _ => by simp at hl
  | _ :: _, [], hl, _ => by simp at hl

theorem Fs.newTup {vs : List Value} {ds : List D} (F : Fs c S κ σ ρ lv (zipT vs ds T) s) (hl : vs.length = ds.length) :
    Fs c S κ σ ρ lv ((.ref s.heap.objs.size, .tup ds) :: T) { s with heap := s.heap.push { cls := .type "tuple", data := .seq vs.toArray } } := by
  have := F.learn (W := fun a o => a = s.heap.objs.size ∧ o = { cls := .type "tuple", data := .seq vs.toArray }) (h' := s.heap.push { cls := .type "tuple", data := .seq vs.toArray }) s.toks (v := .ref s.heap.objs.size) (d := .tup ds)
    (fun b o e => Heap.get?_push_of_some _ e) (by rintro a o ⟨rfl, rfl⟩; exact Heap.get?_push_size _ rfl) (by
      rintro a o ⟨rfl, _⟩
      cases q : s.heap.get? s.heap.objs.size with
      | none => rfl
      | some o' => exact absurd (Heap.lt_size q) (Nat.lt_irrefl _))
    (fun Z hz => .tup (.inr ⟨rfl, rfl⟩) rfl rfl ((IsL.of_zip hl fun p hp => hz p (List.mem_append_left _ hp)).mono fun _ _ h => .inl h))
  exact this.temps fun p hp => by
    rcases List.mem_cons.mp hp with rfl | hp
    · exact .head _
    · exact .tail _ (List.mem_append_right _ hp)
theorem Fs.newLst {vs : List Value} {ds : List D} (F : Fs c S κ σ ρ lv (zipT vs ds T) s) (hl : vs.length = ds.length) :
    Fs c S κ σ ρ lv ((.ref s.heap.objs.size, .lst ds) :: T) { s with heap := s.heap.push { cls := .type "list", data := .seq vs.toArray } } := by
  have := F.learn (W := fun a o => a = s.heap.objs.size ∧ o = { cls := .type "list", data := .seq vs.toArray }) (h' := s.heap.push { cls := .type "list", data := .seq vs.toArray }) s.toks (v := .ref s.heap.objs.size) (d := .lst ds)
    (fun b o e => Heap.get?_push_of_some _ e) (by rintro a o ⟨rfl, rfl⟩; exact Heap.get?_push_size _ rfl) (by
      rintro a o ⟨rfl, _⟩
      cases q : s.heap.get? s.heap.objs.size with
      | none => rfl
      | some o' => exact absurd (Heap.lt_size q) (Nat.lt_irrefl _))
    (fun Z hz => .lst (.inr ⟨rfl, rfl⟩) rfl rfl ((IsL.of_zip hl fun p hp => hz p (List.mem_append_left _ hp)).mono fun _ _ h => .inl h))
  exact this.temps fun p hp => by
    rcases List.mem_cons.mp hp with rfl | hp
    · exact .head _
    · exact .tail _ (List.mem_append_right _ hp)
theorem Ev.tuple {es : List Expr} {ds : List D} {k : Nat} {pos : Pos} (h1 : EvL c S κ σ ρ lv es σ1 ds) (hz : Nat.ble es.length 1000 = true := by rfl) : Ev c S κ σ ρ lv (.Tuple es k pos) σ1 (.tup ds) := fun T s Q F h =>
  wpAny_Tuple (h1.2 T pos s _ F fun vs s1 hl F1 => ⟨by have := Nat.le_of_ble_eq_true hz; rw [sizeLine_eq, hl, h1.1]; omega, h _ _ (F1.newTup hl)⟩)
theorem Ev.list {es : List Expr} {ds : List D} {pos : Pos} (h1 : EvL c S κ σ ρ lv es σ1 ds) (hz : Nat.ble es.length 1000 = true := by rfl) : Ev c S κ σ ρ lv (.List es pos) σ1 (.lst ds) := fun T s Q F h =>
  wpAny_List (h1.2 T pos s _ F fun vs s1 hl F1 => ⟨by have := Nat.le_of_ble_eq_true hz; rw [sizeLine_eq, hl, h1.1]; omega, h _ _ (F1.newLst hl)⟩)

/-- an operation on two values -/
noncomputable def Bin (w : World) (op : Operator) (d1 d2 d : D) : Prop :=
  ∀ (c : Cx) (S : Scope) (κ : Option Kp) (σ : Sg) (ρ : Rho) (lv : List (Str × D)) (T : List (Value × D)) (s : Shared) (Q : Value → Shared → Prop) (v1 v2 : Value), c.w = w →
    Fs c S κ σ ρ lv ((v2, d2) :: (v1, d1) :: T) s → (∀ v s', Fs c S κ σ ρ lv ((v, d) :: T) s' → Q v s') → wpAny (model PG c.w) c.A (binaryOp op v1 v2) Q NoE s
theorem Ev.bin {op : Operator} {l r : Expr} {pos : Pos} {d1 d2 d : D} (h1 : Ev c S κ σ ρ lv l σ1 d1) (h2 : Ev c S κ σ1 ρ lv r σ2 d2) (hb : Bin c.w op d1 d2 d) : Ev c S κ σ ρ lv (.BinOp l op r pos) σ2 d := fun T s Q F h =>
  wpAny_BinOp (h1 T s _ F fun v1 s1 F1 => h2 _ s1 _ F1 fun v2 s2 F2 => hb c S κ σ2 ρ lv T s2 Q v1 v2 rfl F2 h)
noncomputable def Cmp (w : World) (op : CmpOp) (d1 d2 : D) (b : Bool) : Prop :=
  ∀ (c : Cx) (S : Scope) (κ : Option Kp) (σ : Sg) (ρ : Rho) (lv : List (Str × D)) (T : List (Value × D)) (s : Shared) (Q : Value → Shared → Prop) (v1 v2 : Value), c.w = w →
    Fs c S κ σ ρ lv ((v2, d2) :: (v1, d1) :: T) s → (∀ s', Fs c S κ σ ρ lv T s' → Q (.bool b) s') → wpAny (model PG c.w) c.A (compareOp op v1 v2) Q NoE s
theorem Fs.drop2 {p q : Value × D} (F : Fs c S κ σ ρ lv (p :: q :: T) s) : Fs c S κ σ ρ lv T s := F.temps fun _ h => .tail _ (.tail _ h)
theorem Fs.drop1 {p : Value × D} (F : Fs c S κ σ ρ lv (p :: T) s) : Fs c S κ σ ρ lv T s := F.temps fun _ h => .tail _ h
theorem Ev.cmp {op : CmpOp} {l r : Expr} {pos : Pos} {d1 d2 : D} {b : Bool} (h1 : Ev c S κ σ ρ lv l σ1 d1) (h2 : Ev c S κ σ1 ρ lv r σ2 d2) (hb : Cmp c.w op d1 d2 b) (hm : behindInMarks op r = false := by rfl) :
    Ev c S κ σ ρ lv (.Compare l [op] [r] pos) σ2 (.bool b) := fun T s Q F h =>
  wpAny_Compare1 (h1 T s _ F fun v1 s1 F1 => h2 _ s1 _ F1 fun v2 s2 F2 => hb c S κ σ2 ρ lv T s2 Q v1 v2 rfl F2 fun s' F' => h _ _ (F'.push fun _ => .bool b)) hm
theorem Tv.cmp {op : CmpOp} {l r : Expr} {pos : Pos} {d1 d2 : D} {b : Bool} (h1 : Ev c S κ σ ρ lv l σ1 d1) (h2 : Ev c S κ σ1 ρ lv r σ2 d2) (hb : Cmp c.w op d1 d2 b) (hm : behindInMarks op r = false := by rfl) :
    Tv c S κ σ ρ lv (.Compare l [op] [r] pos) σ2 b := fun T s Q F h =>
  wpAny_isTrue_Compare1 (h1 T s _ F fun v1 s1 F1 => h2 _ s1 _ F1 fun v2 s2 F2 => hb c S κ σ2 ρ lv T s2 _ v1 v2 rfl F2 fun s' F' => wpAny_truthy_bool (h _ F')) hm
end

section
variable {w : World} {a b : Int}
theorem bin_add : Bin w .Add (.int a) (.int b) (.int (a + b)) := fun c S κ σ ρ lv T s Q v1 v2 hw F h => by
  obtain ⟨t, rfl⟩ := F.isInt (.tail _ (.head _)); obtain ⟨u, rfl⟩ := F.isInt (.head _)
  exact add_int (h _ _ ((F.drop2.tick _).push fun _ => .int _ _))
theorem bin_sub : Bin w .Sub (.int a) (.int b) (.int (a - b)) := fun c S κ σ ρ lv T s Q v1 v2 hw F h => by
  obtain ⟨t, rfl⟩ := F.isInt (.tail _ (.head _)); obtain ⟨u, rfl⟩ := F.isInt (.head _)
  exact sub_int (h _ _ ((F.drop2.tick _).push fun _ => .int _ _))
theorem bin_mul (hm : IntMulOk a b) : Bin w .Mult (.int a) (.int b) (.int (a * b)) := fun c S κ σ ρ lv T s Q v1 v2 hw F h => by
  obtain ⟨t, rfl⟩ := F.isInt (.tail _ (.head _)); obtain ⟨u, rfl⟩ := F.isInt (.head _)
  exact mul_int (h _ _ ((F.drop2.tick _).push fun _ => .int _ _)) hm
theorem bin_mod (hb : b ≠ 0) : Bin w .Mod (.int a) (.int b) (.int (a.fmod b)) := fun c S κ σ ρ lv T s Q v1 v2 hw F h => by
  obtain ⟨t, rfl⟩ := F.isInt (.tail _ (.head _)); obtain ⟨u, rfl⟩ := F.isInt (.head _)
  exact mod_int' hb (h _ _ ((F.drop2.tick _).push fun _ => .int _ _))
theorem cmp_gt : Cmp w .Gt (.int a) (.int b) (decide (b < a)) := fun c S κ σ ρ lv T s Q v1 v2 hw F h => by
  obtain ⟨t, rfl⟩ := F.isInt (.tail _ (.head _)); obtain ⟨u, rfl⟩ := F.isInt (.head _)
  exact gt_int (h _ F.drop2)
theorem cmp_lt : Cmp w .Lt (.int a) (.int b) (decide (a < b)) := fun c S κ σ ρ lv T s Q v1 v2 hw F h => by
  obtain ⟨t, rfl⟩ := F.isInt (.tail _ (.head _)); obtain ⟨u, rfl⟩ := F.isInt (.head _)
  exact lt_int (h _ F.drop2)
theorem cmp_le : Cmp w .LtE (.int a) (.int b) (decide (a ≤ b)) := fun c S κ σ ρ lv T s Q v1 v2 hw F h => by
  obtain ⟨t, rfl⟩ := F.isInt (.tail _ (.head _)); obtain ⟨u, rfl⟩ := F.isInt (.head _)
  exact le_int (h _ F.drop2)
theorem cmp_ge : Cmp w .GtE (.int a) (.int b) (decide (b ≤ a)) := fun c S κ σ ρ lv T s Q v1 v2 hw F h => by
  obtain ⟨t, rfl⟩ := F.isInt (.tail _ (.head _)); obtain ⟨u, rfl⟩ := F.isInt (.head _)
  exact ge_int (h _ F.drop2)
theorem cmp_eq : Cmp w .Eq (.int a) (.int b) (a == b) := fun c S κ σ ρ lv T s Q v1 v2 hw F h => by
  obtain ⟨t, rfl⟩ := F.isInt (.tail _ (.head _)); obtain ⟨u, rfl⟩ := F.isInt (.head _)
  exact eq_int (h _ F.drop2)
theorem cmp_ne : Cmp w .NotEq (.int a) (.int b) (a != b) := fun c S κ σ ρ lv T s Q v1 v2 hw F h => by
  obtain ⟨t, rfl⟩ := F.isInt (.tail _ (.head _)); obtain ⟨u, rfl⟩ := F.isInt (.head _)
  exact ne_int (h _ F.drop2)
end
end Mine
namespace Mine
/-- statements, from σ and ρ on, end in P -/
noncomputable def Ex (c : Cx) (S : Scope) (σ : Sg) (ρ : Rho) (sts : List Stmt) (P : Flow → Shared → Prop) : Prop :=
  ∀ s, Fs c S .none σ ρ [] [] s → wpAny (model PG c.w) c.A (execs sts (envAt c S .none)) P NoE s
noncomputable def retOf : Flow → Value
  | .ret v => v
  | _ => .none
/-- a def's end: it hands back d -/
noncomputable def Rt (c : Cx) (S : Scope) (σ : Sg) (d : D) (fl : Flow) (s : Shared) : Prop := Fs c S .none σ [] [] [(retOf fl, d)] s

/-- a call of f with ds hands back d, whatever stands around -/
noncomputable def Fn (w : World) (f : Value) (need : Nat) (ds : List D) (σ σ' : Sg) (d : D) : Prop :=
  ∀ (c : Cx) (S : Scope) (κ : Option Kp) (ρ : Rho) (lv : List (Str × D)) (T : List (Value × D)) (vs : List Value) (s : Shared) (A : Around) (R : Result → Shared → Prop),
    c.w = w → A.handled = none → A.depth + need < recursionLimit → A.units + 8 * need + 64 < cLine → vs.length = ds.length → Fs c S κ σ ρ lv (zipT vs ds T) s →
    (∀ v s', Fs c S κ σ' ρ lv ((v, d) :: T) s' → R (.ok (.ret v)) s') → codeAny (model PG w) A (.call f ⟨vs, []⟩) R s

/-- a call whose end is told by Post -/
noncomputable def FnG (w : World) (f : Value) (need : Nat) (ds : List D) (σ : Sg) (Post : Sg → D → Prop) : Prop :=
  ∀ (c : Cx) (S : Scope) (κ : Option Kp) (ρ : Rho) (lv : List (Str × D)) (T : List (Value × D)) (vs : List Value) (s : Shared) (A : Around) (R : Result → Shared → Prop),
    c.w = w → A.handled = none → A.depth + need < recursionLimit → A.units + 8 * need + 64 < cLine → vs.length = ds.length → Fs c S κ σ ρ lv (zipT vs ds T) s →
    (∀ v s' σ' d, Post σ' d → Fs c S κ σ' ρ lv ((v, d) :: T) s' → R (.ok (.ret v)) s') → codeAny (model PG w) A (.call f ⟨vs, []⟩) R s
noncomputable def RtG (c : Cx) (S : Scope) (Post : Sg → D → Prop) (fl : Flow) (s : Shared) : Prop := ∃ σ d, Post σ d ∧ Fs c S .none σ [] [] [(retOf fl, d)] s
theorem FnG.fn {w : World} {f : Value} {need : Nat} {ds : List D} {σ σ' : Sg} {d : D} (h : FnG w f need ds σ fun σ'' d' => σ'' = σ' ∧ d' = d) : Fn w f need ds σ σ' d := fun c S κ ρ lv T vs s A R h1 h2 h3 h4 h5 h6 h7 =>
  h c S κ ρ lv T vs s A R h1 h2 h3 h4 h5 h6 fun v s' σ'' d' e F => by obtain ⟨rfl, rfl⟩ := e; exact h7 v s' F
theorem Fn.toG {w : World} {f : Value} {need : Nat} {ds : List D} {σ σ' : Sg} {d : D} {Post : Sg → D → Prop} (h : Fn w f need ds σ σ' d) (hp : Post σ' d) : FnG w f need ds σ Post := fun c S κ ρ lv T vs s A R h1 h2 h3 h4 h5 h6 h7 =>
  h c S κ ρ lv T vs s A R h1 h2 h3 h4 h5 h6 fun v s' F => h7 v s' _ _ hp F

section
variable {Z : Kn} {kindOf : Str → Option NameKind}
theorem bindL_other {x : Str} : ∀ (names : List Str) (vs : List Value) (m : Str → Option Value), x ∉ names → bindL kindOf (names.zip vs) m x = m x
  | [], _, _, _ => rfl
  | _ :: _, [], _, _ => rfl
  | n :: ns, v :: vs, m, h => by
    have h1 : x ≠ n := fun e => h (e ▸ .head _)
    have h2 : x ∉ ns := fun e => h (.tail _ e)
    show bindL kindOf (ns.zip vs) _ x = m x
    rw [bindL_other ns vs _ h2]
    split
    · exact if_neg h1
    · rfl
theorem bindC_other {x : Str} : ∀ (names : List Str) (vs : List Value) (m : Str → Option Value), x ∉ names → bindC kindOf (names.zip vs) m x = m x
  | [], _, _, _ => rfl
  | _ :: _, [], _, _ => rfl
  | n :: ns, v :: vs, m, h => by
    have h1 : x ≠ n := fun e => h (e ▸ .head _)
    have h2 : x ∉ ns := fun e => h (.tail _ e)
    show bindC kindOf (ns.zip vs) _ x = m x
    rw [bindC_other ns vs _ h2]
    split
    · rfl
    · exact if_neg h1
theorem bind_get {x : Str} {d : D} : ∀ (names : List Str) {ds : List D} {vs : List Value} (m k : Str → Option Value), names.Nodup → IsL Z ds vs → (names.zip ds).lookup x = some d →
    ∃ v, Is Z d v ∧ (kindOf x = some .local → bindL kindOf (names.zip vs) m x = some v) ∧ (kindOf x ≠ some .local → bindC kindOf (names.zip vs) k x = some v)
  | [], _, _, _, _, _, _, h => by simp at h
  | _ :: _, _, _, _, _, _, .nil, h => by simp at h
  | n :: ns, _, _, m, k, hn, .cons (d := d') (v := v) (ds := ds) (vs := vs) hi hl, h => by
    have hnn := List.nodup_cons.mp hn
    by_cases e : x = n
    · subst e
      simp only [List.zip_cons_cons, List.lookup_cons, beq_self_eq_true, Option.some.injEq] at h
      subst h
      refine ⟨v, hi, fun hk => ?_, fun hk => ?_⟩
      · show bindL kindOf (ns.zip vs) _ x = some v
        rw [bindL_other ns vs _ hnn.1, if_pos hk]; exact if_pos rfl
      · show bindC kindOf (ns.zip vs) _ x = some v
        rw [bindC_other ns vs _ hnn.1, if_neg hk]; exact if_pos rfl
    · have h' : (ns.zip ds).lookup x = some d := by
        rw [List.zip_cons_cons, List.lookup_cons] at h
        rw [beq_false_of_ne e] at h
        exact h
      exact bind_get ns _ _ hnn.2 hl h'
end

theorem lookup_zip {x : Str} {d : D} : ∀ (names : List Str) (ds : List D), ((names.zip ds).map fun p => (p.1, B.val p.2)).lookup x = some (.val d) → (names.zip ds).lookup x = some d
  | [], _, h => by simp at h
  | _ :: _, [], h => by simp at h
  | n :: ns, e :: ds, h => by
    simp only [List.zip_cons_cons, List.map_cons, List.lookup_cons] at h ⊢
    split
    · rename_i q; rw [q] at h; simpa using h
    · rename_i q; rw [q] at h; exact lookup_zip ns ds h
theorem lookup_val {x : Str} {b : B} : ∀ (names : List Str) (ds : List D), ((names.zip ds).map fun p => (p.1, B.val p.2)).lookup x = some b → ∃ d, b = .val d
  | [], _, h => by simp at h
  | _ :: _, [], h => by simp at h
  | n :: ns, e :: ds, h => by
    simp only [List.zip_cons_cons, List.map_cons, List.lookup_cons] at h
    split at h
    · exact ⟨e, (Option.some.inj h).symm⟩
    · exact lookup_val ns ds h
theorem lookup_app {x : Str} {b : B} : ∀ (l r : Rho), (l ++ r).lookup x = some b → l.lookup x = some b ∨ (l.lookup x = none ∧ r.lookup x = some b)
  | [], r, h => .inr ⟨rfl, h⟩
  | (n, v) :: l, r, h => by
    rw [List.cons_append, List.lookup_cons] at h
    rw [List.lookup_cons]
    cases q : x == n with
    | true => rw [q] at h; exact .inl h
    | false => rw [q] at h; exact lookup_app l r h

/-- the parameters' boxes, then the cells that hold nothing yet -/
noncomputable def rho0 (names : List Str) (ds : List D) (un : List Str) : Rho := ((names.zip ds).map fun p => (p.1, B.val p.2)) ++ un.map fun x => (x, B.unset)
theorem lookup_un {x : Str} {b : B} : ∀ (un : List Str), (un.map fun x => (x, B.unset)).lookup x = some b → b = .unset ∧ x ∈ un
  | [], h => by simp at h
  | n :: r, h => by
    rw [List.map_cons, List.lookup_cons] at h
    cases q : x == n with
    | true => rw [q] at h; exact ⟨(Option.some.inj h).symm, (eq_of_beq q) ▸ .head _⟩
    | false => rw [q] at h; exact ⟨(lookup_un r h).1, .tail _ (lookup_un r h).2⟩

theorem cells_get {cm : Str → Option Value} {cs : List (Str × Addr)} {cells : Led} (X : CellsAre cm cs cells) : ∀ {x : Str} {a : Addr}, (x, a) ∈ cs → ∃ o, (x, a, o) ∈ (cs.zip cells).map (fun p => (p.1.1, p.2)) ∧ o.data = .cell (cm x) := by
  induction X with
  | nil => intro x a h; cases h
  | cons hd _ ih =>
    intro x a h
    rcases List.mem_cons.mp h with e | h
    · cases e; exact ⟨_, .head _, hd⟩
    · obtain ⟨o, h1, h2⟩ := ih h
      exact ⟨o, .tail _ h1, h2⟩
theorem cells_map {cm : Str → Option Value} {cs : List (Str × Addr)} {cells : Led} (X : CellsAre cm cs cells) : ((cs.zip cells).map (fun p => ((p.1.1, p.2) : Str × Addr × Obj))).map (·.2) = cells := by
  induction X with
  | nil => rfl
  | cons _ _ ih => simp only [List.zip_cons_cons, List.map_cons]; rw [ih]
theorem cells_fst {cm : Str → Option Value} {cs : List (Str × Addr)} {cells : Led} (X : CellsAre cm cs cells) : cells.map (·.1) = cs.map (·.2) := by
  induction X with
  | nil => rfl
  | cons _ _ ih => simp only [List.map_cons]; rw [ih]

theorem mem_lookup {α : Type} {x : Str} {a : α} : ∀ {l : List (Str × α)}, l.lookup x = some a → (x, a) ∈ l
  | (n, v) :: l, h => by
    rw [List.lookup_cons] at h
    cases q : x == n with
    | true => rw [q] at h; cases h; rw [eq_of_beq q]; exact .head _
    | false => rw [q] at h; exact .tail _ (mem_lookup h)

section
variable {w : World} {f : Addr} {need : Nat} {ds es : List D} {σ σ' : Sg} {d : D} {name qual : Str} {params : Arguments} {body : List Stmt} {scope : Scope} {dV kV doc pm cdv ct oc : Value} {an od : Option Addr} {osl : Array (Option Value)}

theorem Fn.defX {Post : Sg → D → Prop} (names un : List Str)
    (ho : (hd.heap_1 w.params).lookup f = some ⟨oc, od, .func (fnOf name qual params body scope dV kV doc pm an cdv ct), osl⟩) (hcd : codeIn (hd.heap_1 w.params) cdv qual = true)
    (hbind : ∀ vs s, vs.length = ds.length → (hd.heap_1 w.params).In s.heap → ∃ us, BindsTo s (fnOf name qual params body scope dV kV doc pm an cdv ct) ⟨vs, []⟩ (names.zip (vs ++ us)) ∧ ∀ Z : Kn, IsL Z es us)
    (hn : names.Nodup) (hkind : ∀ x ∈ names, scope.names.lookup x = some .local ∨ (scope.names.lookup x = some .cell ∧ ((cellsFrom 0 scope.names []).lookup x).isSome = true))
    (hun : ∀ x ∈ un, x ∉ names ∧ scope.names.lookup x = some .cell ∧ ((cellsFrom 0 scope.names []).lookup x).isSome = true)
    (hnd : ((cellsFrom 0 scope.names []).map (·.1)).Nodup) 
    (hco : scope.isCoroutine = false) (hgen : scope.isGenerator = false) (hk : scope.kind = .function)
    (hσn : ∀ σ' d, Post σ' d → ∀ p ∈ σ, ∃ q ∈ σ', q.1 = p.1) (hneed : 1 ≤ need)
    (hb : ∀ c : Cx, c.w = w → c.room + 1 = need → c.ccd = cdv → c.cn = qual → Ex c scope σ (rho0 names (ds ++ es) un) body (RtG c scope Post)) :
    FnG w (.ref f) need ds σ Post := by
  intro c S κ ρ lv T vs s A R hw hh hdep hun' hl F h
  subst hw
  have FK := F.K
  have FT := F.top
  obtain ⟨σo, Z, hσ, own, m, lm, F⟩ := F
  have C := F.core
  obtain ⟨us, hB, hus⟩ := hbind vs s hl FK
  have hsub : ∀ {x : Str} (n n' : Nat), ((cellsFrom n scope.names []).lookup x).isSome = true → ((cellsFrom n' scope.names []).lookup x).isSome = true := by
    intro x n n' hs
    obtain ⟨a, ha⟩ := Option.isSome_iff_exists.mp hs
    have hm : x ∈ (cellsFrom n' scope.names []).map (·.1) := by
      rw [cellsFrom_names scope.names n' n [] [] rfl]
      exact List.mem_map_of_mem (mem_lookup ha)
    obtain ⟨⟨y, b⟩, hy, rfl⟩ := List.mem_map.mp hm
    rw [lookup_of_mem_nodup (cellsFrom_names scope.names 0 n' [] [] rfl ▸ hnd) hy]; rfl
  refine codeAny_call_function (by omega) (FK _ _ ho) rfl hco hgen rfl (codeRec_of FK hcd) (hB _ _ _ _ ?_)
  refine wpAny_newFunctionEnv_cells hk (fun x hx => ?_) fun env he s1 x1 => ?_
  · have hx1 : x.1 ∈ names := (List.of_mem_zip (show (x.1, x.2) ∈ _ from hx)).1
    rcases hkind _ hx1 with q | q
    · exact .inl q
    · exact .inr ⟨q.1, hsub _ _ q.2⟩
  · subst he
    refine ⟨FT.nolimit.keeps x1.toInCall.keep, codeAny_func ?_⟩
    obtain ⟨h₁, tk, rfl, hk₁⟩ := x1.done
    have hns := x1.toInCall.ns
    obtain ⟨cells, NC, Y⟩ := Cl.news (h₀ := s.heap) (Nat.le_refl _) fun n b hm => ⟨x1.cell n b (lookup_of_mem_nodup (cellsFrom_names scope.names 0 (s.heap.objs.size + 1) [] [] rfl ▸ hnd) hm), x1.above n b hm⟩
    -- the callee's ground: all that stands but what σo tells
    let g := hideAll s.heap (σo.map (·.1))
    have gin : ∀ b o, s.heap.get? b = some o → (∀ p ∈ σo, b ≠ p.1) → g.get? b = some o := fun b o e n => hideAll_get _ e fun q => by
      obtain ⟨p, hp, e'⟩ := List.mem_map.mp q
      exact n p hp e'.symm
    have gout : ∀ b o, g.get? b = some o → s.heap.get? b = some o := fun b o e => of_hideAll _ e
    have cg : ∀ b o, c.g.get? b = some o → g.get? b = some o := fun b o e => gin b o (C.fr.keep b o e) fun p hp q => by
      have := (C.sg p hp).2.2; rw [← q, e] at this; cases this
    have gnone : ∀ b, s.heap.get? b = none → g.get? b = none := fun b e => by
      cases q : g.get? b with
      | none => rfl
      | some o => rw [gout b o q] at e; cases e
    have gσ : ∀ p ∈ σo, g.get? p.1 = none := fun p hp => hideAll_none _ (List.mem_map_of_mem hp)
    let env' : Env := envX qual scope s.heap.objs.size f cdv (cellsFrom (s.heap.objs.size + 1) scope.names [])
    let c' : Cx := { c with A := A.deeper env', cn := qual, L := s.heap.objs.size, a := f, ccd := cdv, cl := cellsFrom (s.heap.objs.size + 1) scope.names [], g := g, Z0 := Z, room := need - 1 }
    have ok' : c'.Ok := by
      refine ⟨C.ok.K.keeps cg, C.ok.top.keeps cg, hh, ?_, ?_, C.ok.gr.keeps cg⟩
      · show A.depth + 1 + (need - 1) < _; omega
      · show A.units + 3 + 8 * (need - 1) + 64 < _; omega
    let own' : Own := ((cellsFrom (s.heap.objs.size + 1) scope.names []).zip cells).map fun p => (p.1.1, p.2)
    have hown : own'.map (·.2) = cells := cells_map Y
    have core' : Core c' .none σo Z own' (bindL (envX qual scope s.heap.objs.size f cdv (cellsFrom (s.heap.objs.size + 1) scope.names [])).kindOf (names.zip (vs ++ us)) fun _ => none) (fun _ => none) { s with heap := h₁, toks := tk } := by
      refine ⟨ok', ?_, ⟨hns, fun b o e => hk₁ b o (gout b o e), ?_⟩, fun p hp => ⟨hk₁ _ _ (C.sg p hp).1, Nat.ne_of_lt (Heap.lt_size (C.sg p hp).1), gσ p hp⟩, ?_, ?_, fun a o hz => ?_, fun a o hz => hz, fun k e => (by cases e)⟩
      · show ({ s with heap := h₁, toks := tk } : Shared) = _
        have := C.sh; rw [this]
      · show (hideAll s.heap _).objs.size ≤ _; rw [hideAll_size]; exact Nat.le_refl _
      · rw [hown]; exact fun p hp => ⟨(NC p hp).1, (NC p hp).2.1, gnone _ (NC p hp).2.2⟩
      · rw [hown]
        have hap : cells.Pairwise (fun p q => p.1 ≠ q.1) := by
          have : (cells.map (·.1)).Pairwise (· ≠ ·) := by rw [cells_fst Y, List.pairwise_map]; exact x1.apart
          exact List.pairwise_map.mp this
        refine List.pairwise_append.mpr ⟨hap, (List.pairwise_append.mp C.dj).2.1, fun p hp q hq e => ?_⟩
        have h1 := (NC p hp).2.2
        rw [e, (C.sg q hq).1] at h1; cases h1
      · have zk := C.zk a o hz
        refine ⟨hk₁ _ _ zk.1, Nat.ne_of_lt (Heap.lt_size zk.1), fun p hp e => ?_, zk.2.2.2.1, .inl hz⟩
        have h1 := (NC p.2 (hown ▸ List.mem_map_of_mem hp)).2.2
        rw [← e, zk.1] at h1; cases h1
    have F' : Fs c' scope .none σ (rho0 names (ds ++ es) un) [] [] { s with heap := h₁, toks := tk } := by
      refine ⟨σo, Z, hσ, own', _, _, core', hk, fun x b hx => ?_, fun x d e => (by cases e), fun p hp => (by cases hp)⟩
      have hIsL : IsL Z (ds ++ es) (vs ++ us) := IsL.append (hus Z) (IsL.of_zip hl fun p hp => F.tmp p (List.mem_append_left _ hp))
      rcases lookup_app _ _ hx with hx | ⟨hx0, hx⟩
      · obtain ⟨d, rfl⟩ := lookup_val _ _ hx
        have hx' := lookup_zip _ _ hx
        obtain ⟨v, hv, h1, h2⟩ := bind_get (kindOf := (envX qual scope s.heap.objs.size f cdv (cellsFrom (s.heap.objs.size + 1) scope.names [])).kindOf) names (fun _ => none) (fun _ => none) hn hIsL hx'
        have hxn : x ∈ names := (List.of_mem_zip (mem_lookup hx')).1
        rcases hkind _ hxn with q | q
        · exact .loc q (h1 q) (.val hv)
        · obtain ⟨ca, hca⟩ := Option.isSome_iff_exists.mp (hsub 0 (s.heap.objs.size + 1) q.2)
          obtain ⟨o, ho1, ho2⟩ := cells_get Y (mem_lookup hca)
          refine .cell q.1 hca ho1 (ho2.trans ?_) hv
          exact congrArg Data.cell (h2 (by show scope.names.lookup x ≠ _; rw [q.1]; decide))
      · obtain ⟨rfl, hxu⟩ := lookup_un _ hx
        obtain ⟨hxn, hxc, hxs⟩ := hun _ hxu
        obtain ⟨ca, hca⟩ := Option.isSome_iff_exists.mp (hsub 0 (s.heap.objs.size + 1) hxs)
        obtain ⟨o, ho1, ho2⟩ := cells_get Y (mem_lookup hca)
        exact .unset hxc hca ho1 (ho2.trans (congrArg Data.cell (bindC_other _ _ _ hxn)))
    refine wpAny_mono (hb c' rfl (by show need - 1 + 1 = need; omega) rfl rfl _ F') (fun fl s2 hr => ?_) fun _ _ e => e.elim
    suffices hgoal : R (.ok (.ret (retOf fl))) s2 by cases fl <;> exact hgoal
    obtain ⟨σ', d, hpost, σ2, Z', hσ2, own2, m2, lm2, F2⟩ := hr
    have C2 := F2.core
    have zz : ∀ a o, Z a o → Z' a o := fun a o hz => C2.z0 a o hz
    have kept : ∀ b o, s.heap.get? b = some o → (∀ p ∈ σo, b ≠ p.1) → s2.heap.get? b = some o := fun b o e n => C2.fr.keep b o (gin b o e n)
    have σσ : ∀ p ∈ σ2, (∃ q ∈ σo, q.1 = p.1) ∨ s.heap.get? p.1 = none := fun p hp => by
      by_cases h : ∃ q ∈ σo, q.1 = p.1
      · exact .inl h
      · right
        cases q : s.heap.get? p.1 with
        | none => rfl
        | some o' => exact absurd ((C2.sg p hp).2.2.symm.trans (gin _ o' q fun r hr e => h ⟨r, hr, e.symm⟩)) (by simp)
    have σσ' : ∀ p ∈ σo, ∃ q ∈ σ2, q.1 = p.1 := fun p hp => by
      obtain ⟨q, hq, e⟩ := List.mem_map.mp (hσ.fst ▸ List.mem_map_of_mem hp : p.1 ∈ σ.map (·.1))
      obtain ⟨r, hr, e'⟩ := hσn _ _ hpost q hq
      obtain ⟨t, ht, e2⟩ := List.mem_map.mp (hσ2.fst ▸ List.mem_map_of_mem hr : r.1 ∈ σ2.map (·.1))
      exact ⟨t, ht, e2.trans (e'.trans e)⟩
    -- what is new lies where nothing lay
    have fresh : ∀ a o, Z' a o → Z a o ∨ s.heap.get? a = none := fun a o hz => by
      obtain ⟨_, _, _, h4, h5⟩ := C2.zk a o hz
      rcases h5 with h5 | h5
      · exact .inl h5
      · right
        cases q : s.heap.get? a with
        | none => rfl
        | some o' =>
          have : g.get? a = some o' := gin a o' q fun p hp e => by
            obtain ⟨r, hr, e'⟩ := σσ' p hp
            exact h4 r hr (e.trans e'.symm)
          exact absurd (h5.symm.trans this) (by simp)
    have hL : ∀ p ∈ σo, c.L ≠ p.1 := fun p hp e => (C.sg p hp).2.1 e.symm
    have ne : ∀ {a b : Addr} {ob : Obj}, s.heap.get? a = none → s.heap.get? b = some ob → a ≠ b := fun hn' e q => by rw [q, e] at hn'; cases hn'
    have nL : ∀ {a : Addr}, s.heap.get? a = none → a ≠ c.L := fun hn' => by obtain ⟨oL, _, _, hLo, _⟩ := C.fr.ns; exact ne hn' hLo
    have ng : ∀ {a : Addr}, s.heap.get? a = none → c.g.get? a = none := fun {a} hn' => by
      cases q : c.g.get? a with
      | none => rfl
      | some o' => exact absurd rfl (ne hn' (C.fr.keep _ _ q))
    obtain ⟨dj1, dj2, dj3⟩ := List.pairwise_append.mp C.dj
    refine h (retOf fl) s2 σ' d hpost ⟨σ2, Z', hσ2, own, m, lm, ⟨C.ok, ?_, ⟨?_, fun b o e => C2.fr.keep b o (cg b o e), C.fr.above⟩, fun p hp => ?_, fun p hp => ?_, ?_, fun a o hz => ?_, fun a o hz => zz a o (C.z0 a o hz), fun k e => ?_⟩, F.fn, fun x b e => (F.var x b e).mono zz, fun x d e => ?_, fun p hp => ?_⟩
    · have e1 := C2.sh
      rw [e1]
    · obtain ⟨oL, es', ep, hLo, r⟩ := C.fr.ns
      exact ⟨oL, es', ep, kept _ _ hLo hL, r⟩
    · rcases σσ p hp with ⟨q, hq, e⟩ | hn'
      · refine ⟨(C2.sg p hp).1, ?_, ?_⟩
        · rw [← e]; exact (C.sg q hq).2.1
        · rw [← e]; exact (C.sg q hq).2.2
      · exact ⟨(C2.sg p hp).1, nL hn', ng hn'⟩
    · have := C.ow p hp
      exact ⟨kept _ _ this.1 fun q hq e => dj3 p hp q hq e, this.2⟩
    · refine List.pairwise_append.mpr ⟨dj1, (List.pairwise_append.mp C2.dj).2.1, fun p hp q hq => ?_⟩
      rcases σσ q hq with ⟨r, hr, e⟩ | hn'
      · rw [← e]; exact dj3 p hp r hr
      · exact (ne hn' (C.ow p hp).1).symm
    · have zk2 := C2.zk a o hz
      rcases fresh a o hz with hz' | hn'
      · have zk := C.zk a o hz'
        exact ⟨zk2.1, zk.2.1, zk.2.2.1, zk2.2.2.2.1, zk.2.2.2.2⟩
      · exact ⟨zk2.1, nL hn', fun p hp => ne hn' (C.ow _ (List.mem_map_of_mem hp)).1, zk2.2.2.2.1, .inr (ng hn')⟩
    · obtain ⟨h1, h2, h3, h4, h5, h6⟩ := C.kp k e
      obtain ⟨oC, es', ep, hCo, r⟩ := h1
      refine ⟨⟨oC, es', ep, kept _ _ hCo h4, r⟩, h2, h3, fun p hp => ?_, fun o ho => ?_, h6⟩
      · rcases σσ p hp with ⟨q, hq, e⟩ | hn'
        · rw [← e]; exact h4 q hq
        · exact (ne hn' hCo).symm
      · rcases fresh _ _ ho with hz' | hn'
        · exact h5 o hz'
        · rw [hCo] at hn'; cases hn'
    · obtain ⟨v, e1, e2⟩ := F.lov x d e
      exact ⟨v, e1, e2.mono zz⟩
    · rcases List.mem_cons.mp hp with rfl | hp
      · exact F2.tmp _ (.head _)
      · exact (F.tmp p (List.mem_append_right _ hp)).mono zz
theorem Fn.defG {Post : Sg → D → Prop} (names un : List Str)
    (ho : (hd.heap_1 w.params).lookup f = some ⟨oc, od, .func (fnOf name qual params body scope dV kV doc pm an cdv ct), osl⟩) (hcd : codeIn (hd.heap_1 w.params) cdv qual = true)
    (hbind : ∀ vs s, vs.length = ds.length → (hd.heap_1 w.params).In s.heap → ∃ us, BindsTo s (fnOf name qual params body scope dV kV doc pm an cdv ct) ⟨vs, []⟩ (names.zip (vs ++ us)) ∧ ∀ Z : Kn, IsL Z es us)
    (hn : names.Nodup) (hkind : ∀ x ∈ names, scope.names.lookup x = some .local ∨ (scope.names.lookup x = some .cell ∧ ((cellsFrom 0 scope.names []).lookup x).isSome = true))
    (hun : ∀ x ∈ un, x ∉ names ∧ scope.names.lookup x = some .cell ∧ ((cellsFrom 0 scope.names []).lookup x).isSome = true)
    (hnd : ((cellsFrom 0 scope.names []).map (·.1)).Nodup) 
    (hco : scope.isCoroutine = false) (hgen : scope.isGenerator = false) (hk : scope.kind = .function)
    (hσn : ∀ σ' d, Post σ' d → ∀ p ∈ σ, ∃ q ∈ σ', q.1 = p.1) (hneed : 1 ≤ need)
    (hb : ∀ c : Cx, c.w = w → c.room + 1 = need → Ex c scope σ (rho0 names (ds ++ es) un) body (RtG c scope Post)) :
    FnG w (.ref f) need ds σ Post :=
  Fn.defX names un ho hcd hbind hn hkind hun hnd hco hgen hk hσn hneed fun c h1 h2 _ _ => hb c h1 h2
theorem Fn.def_ (names un : List Str)
    (ho : (hd.heap_1 w.params).lookup f = some ⟨oc, od, .func (fnOf name qual params body scope dV kV doc pm an cdv ct), osl⟩) (hcd : codeIn (hd.heap_1 w.params) cdv qual = true)
    (hbind : ∀ vs s, vs.length = ds.length → (hd.heap_1 w.params).In s.heap → ∃ us, BindsTo s (fnOf name qual params body scope dV kV doc pm an cdv ct) ⟨vs, []⟩ (names.zip (vs ++ us)) ∧ ∀ Z : Kn, IsL Z es us)
    (hn : names.Nodup) (hkind : ∀ x ∈ names, scope.names.lookup x = some .local ∨ (scope.names.lookup x = some .cell ∧ ((cellsFrom 0 scope.names []).lookup x).isSome = true))
    (hun : ∀ x ∈ un, x ∉ names ∧ scope.names.lookup x = some .cell ∧ ((cellsFrom 0 scope.names []).lookup x).isSome = true)
    (hnd : ((cellsFrom 0 scope.names []).map (·.1)).Nodup) 
    (hco : scope.isCoroutine = false) (hgen : scope.isGenerator = false) (hk : scope.kind = .function)
    (hσn : σ'.map (·.1) = σ.map (·.1)) (hneed : 1 ≤ need)
    (hb : ∀ c : Cx, c.w = w → c.room + 1 = need → Ex c scope σ (rho0 names (ds ++ es) un) body (Rt c scope σ' d)) :
    Fn w (.ref f) need ds σ σ' d := by
  refine FnG.fn (Fn.defG names un ho hcd hbind hn hkind hun hnd hco hgen hk (fun σ'' d' e p hp => ?_) hneed fun c hw hr s F => wpAny_mono (hb c hw hr s F) (fun fl s' h' => ⟨_, _, ⟨rfl, rfl⟩, h'⟩) fun _ _ e => e)
  obtain ⟨rfl, _⟩ := e
  obtain ⟨q, hq, e⟩ := List.mem_map.mp (hσn ▸ List.mem_map_of_mem hp : p.1 ∈ σ''.map (·.1))
  exact ⟨q, hq, e⟩
end
end Mine
namespace Mine
/-- with lists held that no name bears yet -/
noncomputable def FsH (c : Cx) (S : Scope) (σ : Sg) (ρ : Rho) (lv : List (Str × D)) (T : List (Value × D)) (H : List (Str × Addr × List D)) (s : Shared) : Prop :=
  ∃ σo Z, Rl Z σ σo ∧ ∃ own m lm, FsAt c S .none σo ρ lv T s Z own m lm ∧ ∀ q ∈ H, ∃ o vs n, (q.1, q.2.1, o) ∈ own ∧ o = lstO vs n ∧ IsL Z q.2.2 vs

section
variable {c : Cx} {S : Scope} {κ : Option Kp} {σ σ1 σ2 σ3 : Sg} {ρ ρ1 ρ2 : Rho} {lv : List (Str × D)} {T : List (Value × D)} {s : Shared} {H : List (Str × Addr × List D)}

theorem lookup_set {x y : Str} {b b' : B} (h : ((x, b) :: ρ).lookup y = some b') : (y = x ∧ b' = b) ∨ (y ≠ x ∧ ρ.lookup y = some b') := by
  rw [List.lookup_cons] at h
  cases q : y == x with
  | true => rw [q] at h; exact .inl ⟨eq_of_beq q, (Option.some.inj h).symm⟩
  | false => rw [q] at h; exact .inr ⟨fun e => by rw [e] at q; simp at q, h⟩

theorem FsH.toFs (F : FsH c S σ ρ lv T H s) : Fs c S .none σ ρ lv T s := let ⟨σo, Z, hσ, own, m, lm, F, _⟩ := F; ⟨σo, Z, hσ, own, m, lm, F⟩
theorem Fs.toH (F : Fs c S .none σ ρ lv T s) : FsH c S σ ρ lv T [] s := let ⟨σo, Z, hσ, own, m, lm, F⟩ := F; ⟨σo, Z, hσ, own, m, lm, F, fun _ h => nomatch h⟩
theorem FsH.grow (F : FsH c S σ ρ lv T H s) {h' : Heap} (tk : Nat) (k : ∀ b o, s.heap.get? b = some o → h'.get? b = some o) : FsH c S σ ρ lv T H { s with heap := h', toks := tk } := by
  obtain ⟨σo, Z, hσ, own, m, lm, F, G⟩ := F
  exact ⟨σo, Z, hσ, own, m, lm, ⟨F.core.grow tk k, F.fn, F.var, F.lov, F.tmp⟩, G⟩
theorem FsH.temps {T' : List (Value × D)} (F : FsH c S σ ρ lv T H s) (h : ∀ p ∈ T', p ∈ T) : FsH c S σ ρ lv T' H s := by
  obtain ⟨σo, Z, hσ, own, m, lm, F, G⟩ := F
  exact ⟨σo, Z, hσ, own, m, lm, ⟨F.core, F.fn, F.var, F.lov, fun p hp => F.tmp p (h p hp)⟩, G⟩
theorem FsH.push (F : FsH c S σ ρ lv T H s) {v : Value} {d : D} (h : ∀ Z, Is Z d v) : FsH c S σ ρ lv ((v, d) :: T) H s := by
  obtain ⟨σo, Z, hσ, own, m, lm, F, G⟩ := F
  refine ⟨σo, Z, hσ, own, m, lm, ⟨F.core, F.fn, F.var, F.lov, fun p hp => ?_⟩, G⟩
  rcases List.mem_cons.mp hp with rfl | hp
  · exact h Z
  · exact F.tmp p hp

/-- a new list is held -/
theorem FsH.hold {vs : List Value} {ds : List D} (F : FsH c S σ ρ lv (zipT vs ds T) H s) (hl : vs.length = ds.length) (x : Str) :
    FsH c S σ ρ lv T ((x, s.heap.objs.size, ds) :: H) { s with heap := s.heap.push { cls := .type "list", data := .seq vs.toArray } } := by
  obtain ⟨σo, Z, hσ, own, m, lm, F, G⟩ := F
  have C := F.core
  have k : ∀ b o, s.heap.get? b = some o → (s.heap.push { cls := .type "list", data := .seq vs.toArray }).get? b = some o := fun b o e => Heap.get?_push_of_some _ e
  have hn : s.heap.get? s.heap.objs.size = none := by
    cases q : s.heap.get? s.heap.objs.size with
    | none => rfl
    | some o' => exact absurd (Heap.lt_size q) (Nat.lt_irrefl _)
  have ne : ∀ {b : Addr} {ob : Obj}, s.heap.get? b = some ob → s.heap.objs.size ≠ b := fun e q => by rw [← q, hn] at e; cases e
  have hL : s.heap.objs.size ≠ c.L := by obtain ⟨oL, _, _, hLo, _⟩ := C.fr.ns; exact ne hLo
  refine ⟨σo, Z, hσ, (x, s.heap.objs.size, { cls := .type "list", data := .seq vs.toArray }) :: own, m, lm, ⟨⟨C.ok, ?_, C.fr.keeps k, C.sg.keeps k, fun p hp => ?_, ?_, fun a o hz => ?_, C.z0, fun k e => by cases e⟩, F.fn, fun y b e => ?_, F.lov, fun p hp => F.tmp p (List.mem_append_right _ hp)⟩, fun q hq => ?_⟩
  · have := C.sh; rw [this]
  · rcases List.mem_cons.mp hp with rfl | hp
    · refine ⟨Heap.get?_push_size _ rfl, hL, ?_⟩
      cases q : c.g.get? s.heap.objs.size with
      | none => rfl
      | some o' => exact absurd rfl (ne (C.fr.keep _ _ q))
    · have := C.ow p hp; exact ⟨k _ _ this.1, this.2⟩
  · refine List.pairwise_cons.mpr ⟨fun p hp => ?_, C.dj⟩
    rcases List.mem_append.mp hp with hp | hp
    · exact ne (C.ow p hp).1
    · exact ne (C.sg p hp).1
  · have zk := C.zk a o hz
    refine ⟨k _ _ zk.1, zk.2.1, fun p hp => ?_, zk.2.2.2⟩
    rcases List.mem_cons.mp hp with rfl | hp
    · exact (ne zk.1).symm
    · exact zk.2.2.1 p hp
  · cases F.var y b e with
    | loc hk hv h =>
      refine .loc hk hv ?_
      cases h with
      | val h => exact .val h
      | own hm ho hl => exact .own (.tail _ hm) ho hl
      | obj hx hc hn hd hm hf => exact .obj hx hc hn hd (.tail _ hm) hf
    | cell hk hc hm hd h => exact .cell hk hc (.tail _ hm) hd h
    | free hk hc hz hd h => exact .free hk hc hz hd h
    | frozen hk hc hz hd h => exact .frozen hk hc hz hd h
    | unset hk hc hm hd => exact .unset hk hc (.tail _ hm) hd
  · rcases List.mem_cons.mp hq with rfl | hq
    · exact ⟨_, vs, _, .head _, rfl, IsL.of_zip hl fun p hp => F.tmp p (List.mem_append_left _ hp)⟩
    · obtain ⟨o, vs', n, h1, h2⟩ := G q hq
      exact ⟨o, vs', n, .tail _ h1, h2⟩

/-- a local name is bound: what is written lies in the names' own object alone -/
theorem store_core {σ : Led} {x : Str} {v : Value} {Z : Kn} {own : Own} {m lm : Str → Option Value} (C : Core c .none σ Z own m lm s) {h' : Heap} {tk : Nat} (hn : h'.Ns c.L (fun y => if y = x then some v else m y)) (hs : Heap.SameBut c.L s.heap h') :
    Core c .none σ Z own (fun y => if y = x then some v else m y) lm { s with heap := h', toks := tk } := by
  refine ⟨C.ok, ?_, C.fr.set hn hs, C.sg.set hs, C.ow.set hs, C.dj, fun a o hz => ?_, C.z0, fun k e => by cases e⟩
  · have := C.sh; rw [this]
  · have zk := C.zk a o hz
    exact ⟨(hs.2 a zk.2.1).trans zk.1, zk.2⟩
theorem VarIs.store {x y : Str} {v : Value} {b : B} {Z : Kn} {own : Own} {m : Str → Option Value} (h : VarIs c S Z own m y b) (hne : y ≠ x) : VarIs c S Z own (fun y => if y = x then some v else m y) y b := by
  cases h with
  | loc hk hv h => exact .loc hk ((if_neg hne).trans hv) h
  | cell hk hc hm hd h => exact .cell hk hc hm hd h
  | free hk hc hz hd h => exact .free hk hc hz hd h
  | frozen hk hc hz hd h => exact .frozen hk hc hz hd h
  | unset hk hc hm hd => exact .unset hk hc hm hd
theorem store_val {x : Str} {d : D} {v : Value} {Q : Unit → Shared → Prop} (F : FsH c S σ ρ lv ((v, d) :: T) H s) (hk : S.names.lookup x = some .local)
    (h : ∀ s', FsH c S σ ((x, .val d) :: ρ) lv T H s' → Q () s') : wpAny (model PG c.w) c.A (storeName (envAt c S .none) x v) Q NoE s := by
  obtain ⟨σo, Z, hσ, own, m, lm, F, G⟩ := F
  refine wpAny_storeName_local hk F.core.fr.ns (fun h' hn hs => h _ ⟨σo, Z, hσ, own, _, lm, ⟨store_core F.core hn hs, F.fn, fun y b e => ?_, F.lov, fun p hp => F.tmp p (.tail _ hp)⟩, G⟩) ?_
  · rcases lookup_set e with ⟨rfl, rfl⟩ | ⟨hne, e⟩
    · exact .loc hk (if_pos rfl) (.val (F.tmp _ (.head _)))
    · exact (F.var y b e).store hne
  · show (S.kind == .class || (S.kind == .module && c.L != mainGlobals)) = false
    rw [F.fn]; rfl
theorem store_own {x : Str} {l : Addr} {ds : List D} {Q : Unit → Shared → Prop} (F : FsH c S σ ρ lv T H s) (hh : (x, l, ds) ∈ H) (hk : S.names.lookup x = some .local)
    (h : ∀ s', FsH c S σ ((x, .own l ds) :: ρ) lv T H s' → Q () s') : wpAny (model PG c.w) c.A (storeName (envAt c S .none) x (.ref l)) Q NoE s := by
  obtain ⟨σo, Z, hσ, own, m, lm, F, G⟩ := F
  refine wpAny_storeName_local hk F.core.fr.ns (fun h' hn hs => h _ ⟨σo, Z, hσ, own, _, lm, ⟨store_core F.core hn hs, F.fn, fun y b e => ?_, F.lov, F.tmp⟩, G⟩) ?_
  · rcases lookup_set e with ⟨rfl, rfl⟩ | ⟨hne, e⟩
    · obtain ⟨o, vs, n, h1, h2, h3⟩ := G _ hh
      exact .loc hk (if_pos rfl) (.own h1 h2 h3)
    · exact (F.var y b e).store hne
  · show (S.kind == .class || (S.kind == .module && c.L != mainGlobals)) = false
    rw [F.fn]; rfl

/-- what comes behind -/
noncomputable def Then (c : Cx) (S : Scope) (rest : List Stmt) (P : Flow → Shared → Prop) (fl : Flow) (s : Shared) : Prop := match fl with
  | .next => wpAny (model PG c.w) c.A (execs rest (envAt c S .none)) P NoE s
  | fl => P fl s
noncomputable def RetP (P : Flow → Shared → Prop) (c : Cx) (S : Scope) (σ : Sg) (d : D) : Prop := ∀ v s, Fs c S .none σ [] [] [(v, d)] s → P (.ret v) s
noncomputable def NextP (P : Flow → Shared → Prop) (c : Cx) (S : Scope) (σ : Sg) (ρ : Rho) : Prop := ∀ s, Fs c S .none σ ρ [] [] s → P .next s
theorem RetP.rt {d : D} : RetP (Rt c S σ d) c S σ d := fun v s F => F
theorem RetP.then_ {P : Flow → Shared → Prop} {d : D} {rest : List Stmt} (h : RetP P c S σ d) : RetP (Then c S rest P) c S σ d := h
theorem NextP.then_ {P : Flow → Shared → Prop} {rest : List Stmt} (h : Ex c S σ ρ rest P) : NextP (Then c S rest P) c S σ ρ := fun s F => h s F
theorem NextP.rt : NextP (Rt c S σ .none) c S σ ρ := fun s F => by
  have := F.push (v := .none) (d := .none) fun Z => .none
  exact this.weaken (fun _ _ e => by cases e) (fun _ _ e => by cases e) fun p hp => hp
theorem Ex.nil {P : Flow → Shared → Prop} (h : NextP P c S σ ρ) : Ex c S σ ρ [] P := fun s F => wpAny_execs_nil (h s F)
theorem Ex.weaken {P : Flow → Shared → Prop} {sts : List Stmt} (h : Ex c S σ ρ' sts P) (k : ∀ p ∈ ρ', ρ.lookup p.1 = some p.2) : Ex c S σ ρ sts P := fun s F => h s (F.weaken (fun x b e => k (x, b) (mem_lookup e)) (fun _ _ e => e) fun _ e => e)

theorem Ex.ret {e : Expr} {pos : Pos} {d : D} {rest : List Stmt} {P : Flow → Shared → Prop} (h1 : Ev c S .none σ ρ [] e σ1 d) (h2 : RetP P c S σ1 d) : Ex c S σ ρ (.Return (some e) pos :: rest) P := fun s F =>
  wpAny_execs_cons (wpAny_Return_some (h1 [] s _ F fun v s1 F1 => h2 v s1 (F1.weaken (fun _ _ e => by cases e) (fun _ _ e => by cases e) fun p hp => hp)))
theorem Ex.step {st : Stmt} {rest : List Stmt} {P : Flow → Shared → Prop} (h : ∀ s, Fs c S .none σ ρ [] [] s → wpAny (model PG c.w) c.A (exec st (envAt c S .none)) (Then c S rest P) NoE s) : Ex c S σ ρ (st :: rest) P := fun s F =>
  wpAny_execs_cons (wpAny_mono (h s F) (fun fl s1 h1 => by cases fl <;> exact h1) fun _ _ e => e)

theorem Ex.assign {x : Str} {e : Expr} {p' pos : Pos} {d : D} {rest : List Stmt} {P : Flow → Shared → Prop} (h1 : Ev c S .none σ ρ [] e σ1 d) (h2 : Ex c S σ1 ((x, .val d) :: ρ) rest P)
    (hk : S.names.lookup x = some .local := by rfl) (hs : ∀ env, swapsWith e (some (.Name x p')) pos.line env = pure false := by intro _; rfl) : Ex c S σ ρ (.Assign [.Name x p'] e pos :: rest) P :=
  Ex.step fun s F => wpAny_Assign_Name (h1 [] s _ F fun v s1 F1 => store_val F1.toH hk fun s2 F2 => h2 s2 F2.toFs) (hs _)
theorem Ex.assignOwn {x : Str} {es : List Expr} {p' lp pos : Pos} {ds : List D} {rest : List Stmt} {P : Flow → Shared → Prop} (h1 : EvL c S .none σ ρ [] es σ1 ds) (h2 : ∀ l, Ex c S σ1 ((x, .own l ds) :: ρ) rest P) (hz : Nat.ble es.length 1000 = true := by rfl)
    (hk : S.names.lookup x = some .local := by rfl) (hs : ∀ env, swapsWith (.List es lp) (some (.Name x p')) pos.line env = pure false := by intro _; rfl) : Ex c S σ ρ (.Assign [.Name x p'] (.List es lp) pos :: rest) P :=
  Ex.step fun s F => wpAny_Assign_Name (wpAny_List (h1.2 [] lp s _ F fun vs s1 hl F1 => ⟨by have := Nat.le_of_ble_eq_true hz; rw [sizeLine_eq, hl, h1.1]; omega, store_own (F1.toH.hold hl x) (.head _) hk fun s2 F2 => h2 _ s2 F2.toFs⟩)) (hs _)
theorem Ex.expr {e : Expr} {pos : Pos} {d : D} {rest : List Stmt} {P : Flow → Shared → Prop} (h1 : Ev c S .none σ ρ [] e σ1 d) (h2 : Ex c S σ1 ρ rest P)
    (hs : ∀ env, swapsWith e none pos.line env = pure false := by intro _; rfl) : Ex c S σ ρ (.Expr e pos :: rest) P :=
  Ex.step fun s F => wpAny_Expr_any (h1 [] s _ F fun v s1 F1 => h2 s1 F1.drop1) (by show interactive (envX _ _ _ _ _ _) = false; unfold interactive; rw [show (envX c.cn S c.L c.a c.ccd c.cl).scope.kind = S.kind from rfl, F.fnKind]; rfl) (hs _)
theorem Ex.if_ {test : Expr} {body orelse : List Stmt} {pos : Pos} {b : Bool} {rest : List Stmt} {P : Flow → Shared → Prop} (h1 : Tv c S .none σ ρ [] test σ1 b)
    (h2 : b = true → Ex c S σ1 ρ body (Then c S rest P)) (h3 : b = false → Ex c S σ1 ρ orelse (Then c S rest P)) : Ex c S σ ρ (.If test body orelse pos :: rest) P :=
  Ex.step fun s F => wpAny_If (h1 [] s _ F fun s1 F1 => by
    cases b with
    | true => exact h2 rfl s1 F1
    | false => exact h3 rfl s1 F1)
theorem Ex.pass {pos : Pos} {rest : List Stmt} {P : Flow → Shared → Prop} (h : Ex c S σ ρ rest P) : Ex c S σ ρ (.Pass pos :: rest) P := Ex.step fun s F => wpAny_Pass (h s F)

/-- a turn's end -/
noncomputable def TurnP {α : Type} (c : Cx) (S : Scope) (σf : α → Sg) (ρf : α → Rho) (μ : α → Nat) (a : α) (Br P : Flow → Shared → Prop) (fl : Flow) (s : Shared) : Prop := match fl with
  | .next | .cont => ∃ a', μ a' < μ a ∧ Fs c S .none (σf a') (ρf a') [] [] s
  | .brk => Br .next s
  | .ret v => P (.ret v) s
theorem Ex.while_ {α : Type} {test : Expr} {body : List Stmt} {pos : Pos} {rest : List Stmt} {P : Flow → Shared → Prop} (σf : α → Sg) (ρf : α → Rho) (μ : α → Nat) (a0 : α) (hσ : σf a0 = σ) (h0 : ∀ p ∈ ρf a0, ρ.lookup p.1 = some p.2)
    (turn : ∀ a, ∃ b σ', Tv c S .none (σf a) (ρf a) [] test σ' b ∧ (b = true → Ex c S σ' (ρf a) body (TurnP c S σf ρf μ a (Then c S rest P) P)) ∧ (b = false → Ex c S σ' (ρf a) rest P)) :
    Ex c S σ ρ (.While test body [] pos :: rest) P := Ex.step fun s F => by
  subst hσ
  refine wpAny_While (codeAny_whileLoop (fun n s' => ∃ a, μ a = n ∧ Fs c S .none (σf a) (ρf a) [] [] s') ?_ (μ a0) ⟨a0, rfl, F.weaken (fun x b e => h0 (x, b) (mem_lookup e)) (fun _ _ e => e) fun _ e => e⟩)
  rintro n s' ⟨a, rfl, F'⟩
  obtain ⟨b, σ', ht, hb1, hb2⟩ := turn a
  refine wpAny_mono (ht [] s' (fun b' s2 => b' = b ∧ Fs c S .none σ' (ρf a) [] [] s2) F' fun s2 F2 => ⟨rfl, F2⟩) (fun b' s2 h2 => ?_) fun _ _ e => e.elim
  obtain ⟨rfl, F2⟩ := h2
  cases b' with
  | true =>
    simp only [if_true]
    refine wpAny_mono (hb1 rfl s2 F2) (fun f s3 h3 => ?_) fun _ _ e => e.elim
    cases f with
    | next => obtain ⟨a', h1, h2⟩ := h3; exact ⟨μ a', h1, a', rfl, h2⟩
    | cont => obtain ⟨a', h1, h2⟩ := h3; exact ⟨μ a', h1, a', rfl, h2⟩
    | brk => exact h3
    | ret v => exact h3
  | false =>
    simp only [Bool.false_eq_true, if_false]
    exact wpAny_execs_nil (hb2 rfl s2 F2)
theorem TurnP.next {α : Type} {σf : α → Sg} {ρf : α → Rho} {μ : α → Nat} {a : α} {Br P : Flow → Shared → Prop} (a' : α) (h : μ a' < μ a) (hσ : σf a' = σ) (hr : ∀ p ∈ ρf a', ρ.lookup p.1 = some p.2) : NextP (TurnP c S σf ρf μ a Br P) c S σ ρ := fun s F => by
  subst hσ
  exact ⟨a', h, F.weaken (fun x b e => hr (x, b) (mem_lookup e)) (fun _ _ e => e) fun _ e => e⟩

/-- a call of a def of the top's -/
theorem Ev.call {f : Value} {need : Nat} {x : Str} {p pos : Pos} {e : Expr} {es : List Expr} {ds : List D} {d : D} (g : Gl c.w x f) (h1 : EvL c S κ σ ρ lv (e :: es) σ1 ds) (hf : Fn c.w f need ds σ1 σ2 d) (hr : need ≤ c.room)
    (hk : ∀ L a ccd cl cn C kcl, (match κ with | .none => envX cn S L a ccd cl | .some k => compEnvC k.scope kcl C (envX cn S L a ccd cl)).kindOf x = some .globalImplicit := by intros; rfl) (hd : (x == ("__debug__" : Str)) = false := by decide)
    (he : ∀ env, starEach (e :: es) env = (false, eval e env) :: starEach es env := by intro _; rfl) (hp : ∀ env pos, ((backTo pos (starEach es env)).any fun x => x.1) = false := by intros; rfl) :
    Ev c S κ σ ρ lv (.Call (.Name x p) (e :: es) [] pos) σ2 d := fun T s Q F h => by
  have hk' : (envAt c S κ).kindOf x = some .globalImplicit := by
    have := hk c.L c.a c.ccd c.cl c.cn
    cases κ with
    | none => exact this default default
    | some k => exact this k.C k.cl
  refine wpAny_Call_NameR (name_glob F g.at_ (callWith_K F.K g.keep ?_ (he _) (hp _ _)) hk' hd)
  refine h1.2 T pos s _ F fun vs s1 hl F1 => ⟨F1.K, wpAny_call ?_⟩
  have ok := F.ok
  exact hf c S κ ρ lv T vs s1 c.A _ rfl ok.handled (by have := ok.depth; omega) (by have := ok.units; omega) hl F1 fun v s2 F2 => h v s2 F2
end
end Mine
namespace Mine
section
variable {c : Cx} {S : Scope} {κ : Option Kp} {σ σ1 σ2 σ3 : Sg} {ρ ρ1 ρ2 : Rho} {lv : List (Str × D)} {T : List (Value × D)} {s : Shared} {H : List (Str × Addr × List D)}

theorem Is.tupAt {Z : Kn} {v : Value} {ds : List D} (h : Is Z (.tup ds) v) (hz : ∀ a o, Z a o → s.heap.get? a = some o) : ∃ a vs, v = .ref a ∧ IsTup s.heap a vs.toArray ∧ IsL Z ds vs := by
  cases h with
  | tup h hc hd hl => exact ⟨_, _, rfl, ⟨_, hz _ _ h, hc, _, hd⟩, hl⟩
theorem Is.lstAt {Z : Kn} {v : Value} {ds : List D} (h : Is Z (.lst ds) v) (hz : ∀ a o, Z a o → s.heap.get? a = some o) : ∃ a vs, v = .ref a ∧ s.heap.IsList a vs.toArray ∧ IsL Z ds vs := by
  cases h with
  | lst h hc hd hl => exact ⟨_, _, rfl, ⟨_, hz _ _ h, hc, _, hd⟩, hl⟩
/-- a tuple among the values at hand: its items are values at hand -/
theorem Fs.openTup {v : Value} {ds : List D} (F : Fs c S κ σ ρ lv T s) (h : (v, D.tup ds) ∈ T) : ∃ a vs, v = .ref a ∧ vs.length = ds.length ∧ IsTup s.heap a vs.toArray ∧ Fs c S κ σ ρ lv (zipT vs ds T) s := by
  obtain ⟨σo, Z, hσ, own, m, lm, F⟩ := F
  obtain ⟨a, vs, rfl, ht, hl⟩ := (F.tmp _ h).tupAt (s := s) fun a o hz => (F.core.zk a o hz).1
  refine ⟨a, vs, rfl, hl.length, ht, σo, Z, hσ, own, m, lm, F.core, F.fn, F.var, F.lov, fun p hp => ?_⟩
  rcases List.mem_append.mp hp with hp | hp
  · obtain ⟨i, hi, e⟩ := List.getElem_of_mem hp
    have hi1 : i < vs.length := by rw [List.length_zip] at hi; omega
    have hi2 : i < ds.length := by rw [List.length_zip] at hi; omega
    rw [List.getElem_zip] at e
    obtain ⟨u, hu, hI⟩ := hl.get (i := i) (d := ds[i]) (by simp [hi2])
    have hu' : u = vs[i] := by rw [List.getElem?_eq_getElem hi1] at hu; exact (Option.some.inj hu).symm
    rw [← e, ← hu']; exact hI
  · exact F.tmp p hp
theorem Fs.openLst {v : Value} {ds : List D} (F : Fs c S κ σ ρ lv T s) (h : (v, D.lst ds) ∈ T) : ∃ a vs, v = .ref a ∧ vs.length = ds.length ∧ s.heap.IsList a vs.toArray ∧ Fs c S κ σ ρ lv (zipT vs ds T) s := by
  obtain ⟨σo, Z, hσ, own, m, lm, F⟩ := F
  obtain ⟨a, vs, rfl, ht, hl⟩ := (F.tmp _ h).lstAt (s := s) fun a o hz => (F.core.zk a o hz).1
  refine ⟨a, vs, rfl, hl.length, ht, σo, Z, hσ, own, m, lm, F.core, F.fn, F.var, F.lov, fun p hp => ?_⟩
  rcases List.mem_append.mp hp with hp | hp
  · obtain ⟨i, hi, e⟩ := List.getElem_of_mem hp
    have hi1 : i < vs.length := by rw [List.length_zip] at hi; omega
    have hi2 : i < ds.length := by rw [List.length_zip] at hi; omega
    rw [List.getElem_zip] at e
    obtain ⟨u, hu, hI⟩ := hl.get (i := i) (d := ds[i]) (by simp [hi2])
    have hu' : u = vs[i] := by rw [List.getElem?_eq_getElem hi1] at hu; exact (Option.some.inj hu).symm
    rw [← e, ← hu']; exact hI
  · exact F.tmp p hp
theorem len0 {α : Type} {vs : List α} (h : vs.length = 0) : vs = [] := List.eq_nil_of_length_eq_zero h
theorem lenS {α : Type} {vs : List α} {n : Nat} (h : vs.length = n + 1) : ∃ v us, vs = v :: us ∧ us.length = n := by
  cases vs with
  | nil => cases h
  | cons v us => exact ⟨v, us, rfl, by simpa using h⟩
theorem len1 {α : Type} {vs : List α} (h : vs.length = 1) : ∃ a, vs = [a] := by obtain ⟨a, us, rfl, h1⟩ := lenS h; exact ⟨a, by rw [len0 h1]⟩
theorem len2 {α : Type} {vs : List α} (h : vs.length = 2) : ∃ a b, vs = [a, b] := by obtain ⟨a, us, rfl, h1⟩ := lenS h; obtain ⟨b, rfl⟩ := len1 h1; exact ⟨a, b, rfl⟩
theorem len3 {α : Type} {vs : List α} (h : vs.length = 3) : ∃ a b c, vs = [a, b, c] := by obtain ⟨a, us, rfl, h1⟩ := lenS h; obtain ⟨b, c, rfl⟩ := len2 h1; exact ⟨a, b, c, rfl⟩

theorem handled (F : Fs c S κ σ ρ lv T s) : c.A.handled = none := F.ok.handled
/-- x, y = e1, e2 -/
theorem Ex.assign2 {x y : Str} {px py tp vp pos : Pos} {k k' : Nat} {e1 e2 : Expr} {d1 d2 : D} {rest : List Stmt} {P : Flow → Shared → Prop} (h1 : EvL c S .none σ ρ [] [e1, e2] σ1 [d1, d2]) (h2 : Ex c S σ1 ((x, .val d1) :: (y, .val d2) :: ρ) rest P)
    (hx : S.names.lookup x = some .local := by rfl) (hy : S.names.lookup y = some .local := by rfl)
    (hs : swapsWithSole [.Tuple [.Name x px, .Name y py] k tp] (.Tuple [e1, e2] k' vp) pos.line (envAt c S .none) = pure false := by rfl) (hw : swappedStores [.Tuple [.Name x px, .Name y py] k tp] (.Tuple [e1, e2] k' vp) (envAt c S .none) = pure (some [x, y]) := by rfl) :
    Ex c S σ ρ (.Assign [.Tuple [.Name x px, .Name y py] k tp] (.Tuple [e1, e2] k' vp) pos :: rest) P := Ex.step fun s F =>
  Assign_Tuple_swapped (names := [x, y]) (Ev.tuple h1 (by rfl) [] s _ F fun v s1 F1 => by
    obtain ⟨a, vs, rfl, hl, ht, F2⟩ := F1.openTup (.head _)
    obtain ⟨v1, v2, rfl⟩ := len2 hl
    refine unpackItems_tuple (items := #[v1, v2]) (handled F) ht fun h' hk => ?_
    have F3 := F2.grow (h' := h') s1.toks fun b o e => hk b o (Nat.ne_of_lt (Heap.lt_size e)) e
    refine assignInOrder_cons (bindName_ (store_val (T := [(v1, d1)]) (F3.temps (T' := [(v2, d2), (v1, d1)]) ?_).toH hy fun s4 F4 => ?_))
    · intro p hp
      rcases List.mem_cons.mp hp with rfl | hp
      · exact .tail _ (.head _)
      · rcases List.mem_cons.mp hp with rfl | hp
        · exact .head _
        · cases hp
    · exact assignInOrder_cons (bindName_ (store_val (T := []) F4 hx fun s5 F5 => assignInOrder_nil (h2 _ F5.toFs)))) hs hw
/-- x, y = t -/
theorem Ex.unpack2 {x y : Str} {px py tp pos : Pos} {k : Nat} {e : Expr} {d1 d2 : D} {rest : List Stmt} {P : Flow → Shared → Prop} (h1 : Ev c S .none σ ρ [] e σ1 (.tup [d1, d2])) (h2 : Ex c S σ1 ((y, .val d2) :: (x, .val d1) :: ρ) rest P)
    (hx : S.names.lookup x = some .local := by rfl) (hy : S.names.lookup y = some .local := by rfl)
    (hs : swapsWithSole [.Tuple [.Name x px, .Name y py] k tp] e pos.line (envAt c S .none) = pure false := by rfl) (hw : swappedStores [.Tuple [.Name x px, .Name y py] k tp] e (envAt c S .none) = pure none := by rfl) :
    Ex c S σ ρ (.Assign [.Tuple [.Name x px, .Name y py] k tp] e pos :: rest) P := Ex.step fun s F =>
  Assign_Tuple (h1 [] s _ F fun v s1 F1 => by
    obtain ⟨a, vs, rfl, hl, ht, F2⟩ := F1.openTup (.head _)
    obtain ⟨v1, v2, rfl⟩ := len2 hl
    refine wpAny_bind (wpAny_standAt (unpack_tuple (items := #[v1, v2]) (handled F) ht rfl rfl fun h' hk => ?_))
    have F3 := F2.grow (h' := h') s1.toks fun b o e => hk b o (Nat.ne_of_lt (Heap.lt_size e)) e
    refine assignInOrder_cons (wpAny_assign_Name (store_val (T := [(v2, d2)]) (F3.temps (T' := [(v1, d1), (v2, d2)]) ?_).toH hx fun s4 F4 => ?_))
    · intro p hp
      rcases List.mem_cons.mp hp with rfl | hp
      · exact .head _
      · rcases List.mem_cons.mp hp with rfl | hp
        · exact .tail _ (.head _)
        · cases hp
    · exact assignInOrder_cons (wpAny_assign_Name (store_val (T := []) F4 hy fun s5 F5 => assignInOrder_nil (h2 _ F5.toFs)))) hs hw

/-- a built-in -/
noncomputable def Bf (w : World) (f : Value) (ds : List D) (d : D) : Prop :=
  ∀ (c : Cx) (S : Scope) (κ : Option Kp) (σ : Sg) (ρ : Rho) (lv : List (Str × D)) (T : List (Value × D)) (vs : List Value) (s : Shared) (Q : Value → Shared → Prop), c.w = w → vs.length = ds.length →
    Fs c S κ σ ρ lv (zipT vs ds T) s → (∀ v s', Fs c S κ σ ρ lv ((v, d) :: T) s' → Q v s') → wpAny (model PG c.w) c.A (call f vs) Q NoE s
/-- a name that the top leaves to the built-ins -/
structure Bt (w : World) (x : Str) (f : Value) : Prop where
  at_ : nsIn (hd.heap_1 w.params) mainGlobals x = some none
  boot : bootBuiltins x = some f
  ne : x ≠ "__name__"
theorem Ev.bcall {id : String} {x : Str} {p pos : Pos} {e : Expr} {es : List Expr} {ds : List D} {d : D} (g : Bt c.w x (.builtin id)) (h1 : EvL c S κ σ ρ lv (e :: es) σ1 ds) (hf : Bf c.w (.builtin id) ds d)
    (hk : ∀ L a ccd cl cn C kcl, (match κ with | .none => envX cn S L a ccd cl | .some k => compEnvC k.scope kcl C (envX cn S L a ccd cl)).kindOf x = some .globalImplicit := by intros; rfl) (hd : (x == ("__debug__" : Str)) = false := by decide)
    (he : ∀ env, starEach (e :: es) env = (false, eval e env) :: starEach es env := by intro _; rfl) (hp : ∀ env pos, ((backTo pos (starEach es env)).any fun x => x.1) = false := by intros; rfl) :
    Ev c S κ σ ρ lv (.Call (.Name x p) (e :: es) [] pos) σ1 d := fun T s Q F h => by
  have hk' : (envAt c S κ).kindOf x = some .globalImplicit := by
    have := hk c.L c.a c.ccd c.cl c.cn
    cases κ with
    | none => exact this default default
    | some k => exact this k.C k.cl
  exact wpAny_Call_NameR (name_boot F g.at_ g.boot g.ne (PyProof.Rows.callWith_builtin1 (h1.2 T pos s _ F fun vs s1 hl F1 => hf c S κ σ1 ρ lv T vs s1 Q rfl hl F1 h) (he _) (hp _ _)) hk' hd)
theorem Ev.tcall {id : String} {x : Str} {p pos : Pos} {e : Expr} {es : List Expr} {ds : List D} {d : D} (g : Bt c.w x (.type id)) (h1 : EvL c S κ σ ρ lv (e :: es) σ1 ds) (hf : Bf c.w (.type id) ds d)
    (hk : ∀ L a ccd cl cn C kcl, (match κ with | .none => envX cn S L a ccd cl | .some k => compEnvC k.scope kcl C (envX cn S L a ccd cl)).kindOf x = some .globalImplicit := by intros; rfl) (hd : (x == ("__debug__" : Str)) = false := by decide)
    (he : ∀ env, starEach (e :: es) env = (false, eval e env) :: starEach es env := by intro _; rfl) (hp : ∀ env pos, ((backTo pos (starEach es env)).any fun x => x.1) = false := by intros; rfl) :
    Ev c S κ σ ρ lv (.Call (.Name x p) (e :: es) [] pos) σ1 d := fun T s Q F h => by
  have hk' : (envAt c S κ).kindOf x = some .globalImplicit := by
    have := hk c.L c.a c.ccd c.cl c.cn
    cases κ with
    | none => exact this default default
    | some k => exact this k.C k.cl
  exact wpAny_Call_NameR (name_boot F g.at_ g.boot g.ne (PyProof.Rows.callWith_type1 (h1.2 T pos s _ F fun vs s1 hl F1 => hf c S κ σ1 ρ lv T vs s1 Q rfl hl F1 h) (he _) (hp _ _)) hk' hd)
theorem Fs.arg0 {v : Value} {d : D} {vs : List Value} {ds : List D} (F : Fs c S κ σ ρ lv (zipT (v :: vs) (d :: ds) T) s) : Fs c S κ σ ρ lv T s := F.temps fun _ h => List.mem_append_right _ h
theorem bf_abs {w : World} {n : Int} : Bf w (.builtin "abs") [.int n] (.int (if n < 0 then -n else n)) := fun c S κ σ ρ lv T vs s Q hw hl F h => by
  obtain ⟨v, rfl⟩ := len1 hl
  obtain ⟨t, rfl⟩ := F.isInt (.head _)
  exact call_abs_int fun u tk => h _ _ ((F.arg0.tick tk).push fun _ => .int _ u)
theorem bind1 {fd : FuncData} {names : List Str} {K : Frag} (h : ∀ s v0, BindsTo s fd ⟨[v0], []⟩ (names.zip [v0])) : ∀ vs s, vs.length = 1 → K.In s.heap → ∃ us, BindsTo s fd ⟨vs, []⟩ (names.zip (vs ++ us)) ∧ ∀ Z : Kn, IsL Z [] us := by
  intro vs s hl hK
  refine ⟨[], ?_, fun _ => .nil⟩
  rw [List.append_nil]
  obtain ⟨v0, vs1, rfl, hl1⟩ := lenS hl
  obtain rfl := len0 hl1
  exact h s v0
theorem bind2 {fd : FuncData} {names : List Str} {K : Frag} (h : ∀ s v0 v1, BindsTo s fd ⟨[v0, v1], []⟩ (names.zip [v0, v1])) : ∀ vs s, vs.length = 2 → K.In s.heap → ∃ us, BindsTo s fd ⟨vs, []⟩ (names.zip (vs ++ us)) ∧ ∀ Z : Kn, IsL Z [] us := by
  intro vs s hl hK
  refine ⟨[], ?_, fun _ => .nil⟩
  rw [List.append_nil]
  obtain ⟨v0, vs1, rfl, hl1⟩ := lenS hl
  obtain ⟨v1, vs2, rfl, hl2⟩ := lenS hl1
  obtain rfl := len0 hl2
  exact h s v0 v1
theorem bind3 {fd : FuncData} {names : List Str} {K : Frag} (h : ∀ s v0 v1 v2, BindsTo s fd ⟨[v0, v1, v2], []⟩ (names.zip [v0, v1, v2])) : ∀ vs s, vs.length = 3 → K.In s.heap → ∃ us, BindsTo s fd ⟨vs, []⟩ (names.zip (vs ++ us)) ∧ ∀ Z : Kn, IsL Z [] us := by
  intro vs s hl hK
  refine ⟨[], ?_, fun _ => .nil⟩
  rw [List.append_nil]
  obtain ⟨v0, vs1, rfl, hl1⟩ := lenS hl
  obtain ⟨v1, vs2, rfl, hl2⟩ := lenS hl1
  obtain ⟨v2, vs3, rfl, hl3⟩ := lenS hl2
  obtain rfl := len0 hl3
  exact h s v0 v1 v2
theorem bind4 {fd : FuncData} {names : List Str} {K : Frag} (h : ∀ s v0 v1 v2 v3, BindsTo s fd ⟨[v0, v1, v2, v3], []⟩ (names.zip [v0, v1, v2, v3])) : ∀ vs s, vs.length = 4 → K.In s.heap → ∃ us, BindsTo s fd ⟨vs, []⟩ (names.zip (vs ++ us)) ∧ ∀ Z : Kn, IsL Z [] us := by
  intro vs s hl hK
  refine ⟨[], ?_, fun _ => .nil⟩
  rw [List.append_nil]
  obtain ⟨v0, vs1, rfl, hl1⟩ := lenS hl
  obtain ⟨v1, vs2, rfl, hl2⟩ := lenS hl1
  obtain ⟨v2, vs3, rfl, hl3⟩ := lenS hl2
  obtain ⟨v3, vs4, rfl, hl4⟩ := lenS hl3
  obtain rfl := len0 hl4
  exact h s v0 v1 v2 v3
theorem bind5 {fd : FuncData} {names : List Str} {K : Frag} (h : ∀ s v0 v1 v2 v3 v4, BindsTo s fd ⟨[v0, v1, v2, v3, v4], []⟩ (names.zip [v0, v1, v2, v3, v4])) : ∀ vs s, vs.length = 5 → K.In s.heap → ∃ us, BindsTo s fd ⟨vs, []⟩ (names.zip (vs ++ us)) ∧ ∀ Z : Kn, IsL Z [] us := by
  intro vs s hl hK
  refine ⟨[], ?_, fun _ => .nil⟩
  rw [List.append_nil]
  obtain ⟨v0, vs1, rfl, hl1⟩ := lenS hl
  obtain ⟨v1, vs2, rfl, hl2⟩ := lenS hl1
  obtain ⟨v2, vs3, rfl, hl3⟩ := lenS hl2
  obtain ⟨v3, vs4, rfl, hl4⟩ := lenS hl3
  obtain ⟨v4, vs5, rfl, hl5⟩ := lenS hl4
  obtain rfl := len0 hl5
  exact h s v0 v1 v2 v3 v4
theorem bind6 {fd : FuncData} {names : List Str} {K : Frag} (h : ∀ s v0 v1 v2 v3 v4 v5, BindsTo s fd ⟨[v0, v1, v2, v3, v4, v5], []⟩ (names.zip [v0, v1, v2, v3, v4, v5])) : ∀ vs s, vs.length = 6 → K.In s.heap → ∃ us, BindsTo s fd ⟨vs, []⟩ (names.zip (vs ++ us)) ∧ ∀ Z : Kn, IsL Z [] us := by
  intro vs s hl hK
  refine ⟨[], ?_, fun _ => .nil⟩
  rw [List.append_nil]
  obtain ⟨v0, vs1, rfl, hl1⟩ := lenS hl
  obtain ⟨v1, vs2, rfl, hl2⟩ := lenS hl1
  obtain ⟨v2, vs3, rfl, hl3⟩ := lenS hl2
  obtain ⟨v3, vs4, rfl, hl4⟩ := lenS hl3
  obtain ⟨v4, vs5, rfl, hl5⟩ := lenS hl4
  obtain ⟨v5, vs6, rfl, hl6⟩ := lenS hl5
  obtain rfl := len0 hl6
  exact h s v0 v1 v2 v3 v4 v5
theorem bind7 {fd : FuncData} {names : List Str} {K : Frag} (h : ∀ s v0 v1 v2 v3 v4 v5 v6, BindsTo s fd ⟨[v0, v1, v2, v3, v4, v5, v6], []⟩ (names.zip [v0, v1, v2, v3, v4, v5, v6])) : ∀ vs s, vs.length = 7 → K.In s.heap → ∃ us, BindsTo s fd ⟨vs, []⟩ (names.zip (vs ++ us)) ∧ ∀ Z : Kn, IsL Z [] us := by
  intro vs s hl hK
  refine ⟨[], ?_, fun _ => .nil⟩
  rw [List.append_nil]
  obtain ⟨v0, vs1, rfl, hl1⟩ := lenS hl
  obtain ⟨v1, vs2, rfl, hl2⟩ := lenS hl1
  obtain ⟨v2, vs3, rfl, hl3⟩ := lenS hl2
  obtain ⟨v3, vs4, rfl, hl4⟩ := lenS hl3
  obtain ⟨v4, vs5, rfl, hl5⟩ := lenS hl4
  obtain ⟨v5, vs6, rfl, hl6⟩ := lenS hl5
  obtain ⟨v6, vs7, rfl, hl7⟩ := lenS hl6
  obtain rfl := len0 hl7
  exact h s v0 v1 v2 v3 v4 v5 v6
theorem bind8 {fd : FuncData} {names : List Str} {K : Frag} (h : ∀ s v0 v1 v2 v3 v4 v5 v6 v7, BindsTo s fd ⟨[v0, v1, v2, v3, v4, v5, v6, v7], []⟩ (names.zip [v0, v1, v2, v3, v4, v5, v6, v7])) : ∀ vs s, vs.length = 8 → K.In s.heap → ∃ us, BindsTo s fd ⟨vs, []⟩ (names.zip (vs ++ us)) ∧ ∀ Z : Kn, IsL Z [] us := by
  intro vs s hl hK
  refine ⟨[], ?_, fun _ => .nil⟩
  rw [List.append_nil]
  obtain ⟨v0, vs1, rfl, hl1⟩ := lenS hl
  obtain ⟨v1, vs2, rfl, hl2⟩ := lenS hl1
  obtain ⟨v2, vs3, rfl, hl3⟩ := lenS hl2
  obtain ⟨v3, vs4, rfl, hl4⟩ := lenS hl3
  obtain ⟨v4, vs5, rfl, hl5⟩ := lenS hl4
  obtain ⟨v5, vs6, rfl, hl6⟩ := lenS hl5
  obtain ⟨v6, vs7, rfl, hl7⟩ := lenS hl6
  obtain ⟨v7, vs8, rfl, hl8⟩ := lenS hl7
  obtain rfl := len0 hl8
  exact h s v0 v1 v2 v3 v4 v5 v6 v7
theorem bind9 {fd : FuncData} {names : List Str} {K : Frag} (h : ∀ s v0 v1 v2 v3 v4 v5 v6 v7 v8, BindsTo s fd ⟨[v0, v1, v2, v3, v4, v5, v6, v7, v8], []⟩ (names.zip [v0, v1, v2, v3, v4, v5, v6, v7, v8])) : ∀ vs s, vs.length = 9 → K.In s.heap → ∃ us, BindsTo s fd ⟨vs, []⟩ (names.zip (vs ++ us)) ∧ ∀ Z : Kn, IsL Z [] us := by
  intro vs s hl hK
  refine ⟨[], ?_, fun _ => .nil⟩
  rw [List.append_nil]
  obtain ⟨v0, vs1, rfl, hl1⟩ := lenS hl
  obtain ⟨v1, vs2, rfl, hl2⟩ := lenS hl1
  obtain ⟨v2, vs3, rfl, hl3⟩ := lenS hl2
  obtain ⟨v3, vs4, rfl, hl4⟩ := lenS hl3
  obtain ⟨v4, vs5, rfl, hl5⟩ := lenS hl4
  obtain ⟨v5, vs6, rfl, hl6⟩ := lenS hl5
  obtain ⟨v6, vs7, rfl, hl7⟩ := lenS hl6
  obtain ⟨v7, vs8, rfl, hl8⟩ := lenS hl7
  obtain ⟨v8, vs9, rfl, hl9⟩ := lenS hl8
  obtain rfl := len0 hl9
  exact h s v0 v1 v2 v3 v4 v5 v6 v7 v8
theorem bindD2 {fd : FuncData} {names : List Str} {K : Frag} (h : ∀ s v0 v1, K.In s.heap → BindsTo s fd ⟨[v0, v1], []⟩ (names.zip [v0, v1])) : ∀ vs s, vs.length = 2 → K.In s.heap → ∃ us, BindsTo s fd ⟨vs, []⟩ (names.zip (vs ++ us)) ∧ ∀ Z : Kn, IsL Z [] us := by
  intro vs s hl hK
  obtain ⟨v0, v1, rfl⟩ := len2 hl
  exact ⟨[], h s v0 v1 hK, fun _ => .nil⟩
theorem bindDi {fd : FuncData} {names : List Str} {K : Frag} {n : Int} {t : Tok} (h : ∀ s v0, K.In s.heap → BindsTo s fd ⟨[v0], []⟩ (names.zip [v0, .int n t])) : ∀ vs s, vs.length = 1 → K.In s.heap → ∃ us, BindsTo s fd ⟨vs, []⟩ (names.zip (vs ++ us)) ∧ ∀ Z : Kn, IsL Z [.int n] us := by
  intro vs s hl hK
  obtain ⟨v0, rfl⟩ := len1 hl
  exact ⟨[.int n t], h s v0 hK, fun _ => .cons (.int _ _) .nil⟩
theorem bindDv {fd : FuncData} {names : List Str} {K : Frag} {n : Nat} {ds : List D} (u : Value) (h : ∀ s vs, vs.length = n → K.In s.heap → BindsTo s fd ⟨vs, []⟩ (names.zip (vs ++ [u]))) : ∀ vs s, vs.length = n → K.In s.heap → ∃ us, BindsTo s fd ⟨vs, []⟩ (names.zip (vs ++ us)) ∧ ∀ Z : Kn, IsL Z [.val u] us := by
  intro vs s hl hK
  exact ⟨[u], h s vs hl hK, fun _ => .cons (.val _) .nil⟩
end
end Mine
namespace Mine
noncomputable def Bd (k : Nat) (n : Int) : Prop := n.natAbs < 2 ^ k
theorem Bd.mono {k k' : Nat} {n : Int} (h : Bd k n) (hk : k ≤ k') : Bd k' n := Nat.lt_of_lt_of_le h (Nat.pow_le_pow_right (by omega) hk)
theorem Bd.mulOk {k : Nat} {a b : Int} (ha : Bd k a) (hb : Bd k b) (hk : k ≤ 2 ^ 20 := by decide) : IntMulOk a b :=
  IntMulOk.of_bits (Nat.le_trans (intBits_le ha) hk) (Nat.le_trans (intBits_le hb) hk)
theorem Bd.log2 {k : Nat} {b : Int} (hb : Bd k b) (h0 : b ≠ 0) : b.natAbs.log2 < k := (Nat.log2_lt (by omega)).mpr hb

section
variable {w : World} {a b : Int}
theorem bin_fdiv {k : Nat} (h0 : b ≠ 0) (hb : Bd k b) (hk : k ≤ 9000 := by decide) : Bin w .FloorDiv (.int a) (.int b) (.int (a.fdiv b)) := fun c S κ σ ρ lv T s Q v1 v2 hw F h => by
  obtain ⟨t, rfl⟩ := F.isInt (.tail _ (.head _)); obtain ⟨u, rfl⟩ := F.isInt (.head _)
  exact floordiv_int h0 (h _ _ ((F.drop2.tick _).push fun _ => .int _ _)) (.inl (PyProof.noPylong_of_log2 (Nat.lt_of_lt_of_le (hb.log2 h0) hk)))
theorem cmp_eqS {x y : Str} : Cmp w .Eq (.str x) (.str y) (x == y) := fun c S κ σ ρ lv T s Q v1 v2 hw F h => by
  obtain ⟨t, rfl⟩ := F.isStr (.tail _ (.head _)); obtain ⟨u, rfl⟩ := F.isStr (.head _)
  exact eq_str (h _ F.drop2)
noncomputable def D.isNone : D → Option Bool
  | .none => some true
  | .val _ => Option.none
  | _ => some false
theorem Is.isNone {Z : Kn} {d : D} {v : Value} {r : Bool} (h : Is Z d v) (e : d.isNone = some r) : (v == .none) = r := by
  cases h <;> first | (cases e; rfl) | (cases e)
theorem cmp_is {d : D} {r : Bool} (hr : d.isNone = some r) : Cmp w .Is d .none r := fun c S κ σ ρ lv T s Q v1 v2 hw F h => by
  obtain rfl := F.isNone (.head _)
  obtain ⟨Z, hi⟩ := F.is (.tail _ (.head _))
  refine PySem.is_none ?_
  rw [hi.isNone hr]
  exact h _ F.drop2
theorem cmp_isNot {d : D} {r : Bool} (hr : d.isNone = some r) : Cmp w .IsNot d .none (!r) := fun c S κ σ ρ lv T s Q v1 v2 hw F h => by
  obtain rfl := F.isNone (.head _)
  obtain ⟨Z, hi⟩ := F.is (.tail _ (.head _))
  refine PySem.isNot_none ?_
  rw [hi.isNone hr]
  exact h _ F.drop2
end

section
variable {c : Cx} {S : Scope} {κ : Option Kp} {σ σ1 σ2 σ3 : Sg} {ρ ρ1 ρ2 : Rho} {lv : List (Str × D)} {T : List (Value × D)} {s : Shared} {H : List (Str × Addr × List D)}

theorem Ev.neg {e : Expr} {pos : Pos} {n : Int} (h1 : Ev c S κ σ ρ lv e σ1 (.int n)) : Ev c S κ σ ρ lv (.UnaryOp .USub e pos) σ1 (.int (-n)) := fun T s Q F h =>
  wpAny_UnaryOp (h1 T s _ F fun v s1 F1 => by
    obtain ⟨t, rfl⟩ := F1.isInt (.head _)
    exact neg_int (h _ _ ((F1.drop1.tick _).push fun _ => .int _ _)))
theorem Tv.not {e : Expr} {pos : Pos} {b : Bool} (h1 : Tv c S κ σ ρ lv e σ1 b) : Tv c S κ σ ρ lv (.UnaryOp .Not e pos) σ1 (!b) := fun T s Q F h =>
  wpAny_isTrue_Not (h1 T s _ F fun s1 F1 => h s1 F1)
theorem Tv.val {e : Expr} {b : Bool} (h1 : Ev c S κ σ ρ lv e σ1 (.bool b)) (he : ∀ env whole, isTrue e env whole = (do let v ← whole; standAt e.pos; holding [v] (truthy v)) := by intros; rfl) : Tv c S κ σ ρ lv e σ1 b := fun T s Q F h =>
  wpAny_isTrue_value (h1 T s _ F fun v s1 F1 => by
    obtain rfl := F1.isBool (.head _)
    exact wpAny_truthy_bool (h s1 F1.drop1)) (he _ _)
theorem Tv.and2 {x y : Expr} {pos : Pos} {p q : Bool} (h1 : Tv c S κ σ ρ lv x σ1 p) (h2 : p = true → Tv c S κ σ1 ρ lv y σ1 q) : Tv c S κ σ ρ lv (.BoolOp .And [x, y] pos) σ1 (p && q) := fun T s Q F h =>
  wpAny_isTrue_BoolOp (wpAny_allTrue_And_cons (h1 T s _ F fun s1 F1 => by
    cases p with
    | true => exact wpAny_allTrue_And_cons (h2 rfl T s1 _ F1 fun s2 F2 => by
        cases q with
        | true => exact wpAny_allTrue_And_nil (h s2 F2)
        | false => exact h s2 F2)
    | false => exact h s1 F1))
theorem Tv.or2 {x y : Expr} {pos : Pos} {p q : Bool} (h1 : Tv c S κ σ ρ lv x σ1 p) (h2 : p = false → Tv c S κ σ1 ρ lv y σ1 q) : Tv c S κ σ ρ lv (.BoolOp .Or [x, y] pos) σ1 (p || q) := fun T s Q F h =>
  wpAny_isTrue_BoolOp (wpAny_allTrue_Or_cons (h1 T s _ F fun s1 F1 => by
    cases p with
    | false => exact wpAny_allTrue_Or_cons (h2 rfl T s1 _ F1 fun s2 F2 => by
        cases q with
        | false => exact wpAny_allTrue_Or_nil (h s2 F2)
        | true => exact h s2 F2)
    | true => exact h s1 F1))
theorem Ev.ifexp {t x y : Expr} {pos : Pos} {b : Bool} {d : D} (h1 : Tv c S κ σ ρ lv t σ1 b) (h2 : b = true → Ev c S κ σ1 ρ lv x σ2 d) (h3 : b = false → Ev c S κ σ1 ρ lv y σ2 d) : Ev c S κ σ ρ lv (.IfExp t x y pos) σ2 d := fun T s Q F h =>
  wpAny_IfExp (h1 T s _ F fun s1 F1 => by
    cases b with
    | true => exact h2 rfl T s1 _ F1 h
    | false => exact h3 rfl T s1 _ F1 h)
/-- a op b op c -/
theorem Tv.chain {op1 op2 : CmpOp} {x y z : Expr} {pos : Pos} {d1 d2 d3 : D} {p q : Bool} (h1 : Ev c S κ σ ρ lv x σ d1) (h2 : Ev c S κ σ ρ lv y σ d2) (hp : Cmp c.w op1 d1 d2 p) (h3 : p = true → Ev c S κ σ ρ lv z σ d3) (hq : p = true → Cmp c.w op2 d2 d3 q)
    (hm : lastMarks [op1, op2] [y, z] = false := by with_unfolding_all rfl) : Tv c S κ σ ρ lv (.Compare x [op1, op2] [y, z] pos) σ (p && q) := fun T s Q F h =>
  isTrue_chain (ops := []) (rs := []) (h1 T s _ F fun v1 s1 F1 => by
    refine wpAny_bind (wpAny_holding (h2 _ s1 _ F1 fun v2 s2 F2 => wpAny_bind (wpAny_standAt (wpAny_bind (wpAny_holding ?_)))))
    have F2' : Fs c S κ σ ρ lv ((v2, d2) :: (v1, d1) :: (v2, d2) :: T) s2 := F2.temps fun p hp => by
      rcases List.mem_cons.mp hp with rfl | hp
      · exact .head _
      · rcases List.mem_cons.mp hp with rfl | hp
        · exact .tail _ (.head _)
        · rcases List.mem_cons.mp hp with rfl | hp
          · exact .head _
          · exact .tail _ (.tail _ hp)
    refine hp c S κ σ ρ lv _ s2 _ v1 v2 rfl F2' fun s3 F3 => wpAny_bind (wpAny_release (wpAny_bind (wpAny_holding (wpAny_truthy_bool ?_))))
    cases p with
    | false => exact wpAny_pure (h s3 F3.drop1)
    | true =>
      refine wpAny_bind (wpAny_holding (h3 rfl _ s3 _ F3 fun v3 s4 F4 => wpAny_bind (wpAny_standAt (wpAny_bind (wpAny_operate' ?_)))))
      exact hq rfl c S κ σ ρ lv T s4 _ v2 v3 rfl F4 fun s5 F5 => wpAny_holding (wpAny_truthy_bool (h s5 F5))) hm
theorem Ev.chain {op1 op2 : CmpOp} {x y z : Expr} {pos : Pos} {d1 d2 d3 : D} {p q : Bool} (h1 : Ev c S κ σ ρ lv x σ d1) (h2 : Ev c S κ σ ρ lv y σ d2) (hp : Cmp c.w op1 d1 d2 p) (h3 : p = true → Ev c S κ σ ρ lv z σ d3) (hq : p = true → Cmp c.w op2 d2 d3 q)
    (hm : lastMarks [op1, op2] [y, z] = false := by with_unfolding_all rfl) : Ev c S κ σ ρ lv (.Compare x [op1, op2] [y, z] pos) σ (.bool (p && q)) := fun T s Q F h =>
  Compare_chain (ops := []) (rs := []) (h1 T s _ F fun v1 s1 F1 => by
    refine wpAny_bind (wpAny_holding (h2 _ s1 _ F1 fun v2 s2 F2 => wpAny_bind (wpAny_standAt (wpAny_bind (wpAny_holding ?_)))))
    have F2' : Fs c S κ σ ρ lv ((v2, d2) :: (v1, d1) :: (v2, d2) :: T) s2 := F2.temps fun p hp => by
      rcases List.mem_cons.mp hp with rfl | hp
      · exact .head _
      · rcases List.mem_cons.mp hp with rfl | hp
        · exact .tail _ (.head _)
        · rcases List.mem_cons.mp hp with rfl | hp
          · exact .head _
          · exact .tail _ (.tail _ hp)
    refine hp c S κ σ ρ lv _ s2 _ v1 v2 rfl F2' fun s3 F3 => wpAny_bind (wpAny_release (wpAny_bind (wpAny_holding (wpAny_truthy_bool ?_))))
    cases p with
    | false => exact wpAny_pure (h _ s3 (F3.drop1.push fun _ => .bool _))
    | true =>
      refine wpAny_bind (wpAny_holding (h3 rfl _ s3 _ F3 fun v3 s4 F4 => wpAny_bind (wpAny_standAt (wpAny_operate' ?_))))
      exact hq rfl c S κ σ ρ lv T s4 _ v2 v3 rfl F4 fun s5 F5 => h _ s5 (F5.push fun _ => .bool _)) hm

/-- an item -/
noncomputable def Sub (w : World) (value slice : Expr) (d1 d2 d : D) : Prop :=
  ∀ (c : Cx) (S : Scope) (κ : Option Kp) (σ : Sg) (ρ : Rho) (lv : List (Str × D)) (T : List (Value × D)) (s : Shared) (Q : Value → Shared → Prop) (v1 v2 : Value), c.w = w →
    Fs c S κ σ ρ lv ((v2, d2) :: (v1, d1) :: T) s → (∀ v s', Fs c S κ σ ρ lv ((v, d) :: T) s' → Q v s') → wpAny (model PG c.w) c.A (subscriptTail value slice v1 v2) Q NoE s
theorem Ev.sub {value slice : Expr} {pos : Pos} {d1 d2 d : D} (h1 : Ev c S κ σ ρ lv value σ1 d1) (h2 : Ev c S κ σ1 ρ lv slice σ2 d2) (h3 : Sub c.w value slice d1 d2 d) : Ev c S κ σ ρ lv (.Subscript value slice pos) σ2 d := fun T s Q F h =>
  Subscript_ (h1 T s _ F fun v1 s1 F1 => h2 _ s1 _ F1 fun v2 s2 F2 => h3 c S κ σ2 ρ lv T s2 Q v1 v2 rfl F2 h)
theorem zip_mem {vs : List Value} {ds : List D} {j : Nat} {v : Value} {d : D} (hv : vs[j]? = some v) (hd : ds[j]? = some d) : (v, d) ∈ zipT vs ds T := List.mem_append_left _ (List.mem_of_getElem? (i := j) (by rw [List.getElem?_zip_eq_some]; exact ⟨hv, hd⟩))
theorem get_of_len {vs : List Value} {ds : List D} {j : Nat} {d : D} (hl : vs.length = ds.length) (hd : ds[j]? = some d) : ∃ v, vs[j]? = some v := by
  obtain ⟨h, _⟩ := List.getElem?_eq_some_iff.mp hd
  exact ⟨vs[j]'(by omega), List.getElem?_eq_getElem (by omega)⟩
theorem sub_tup {w : World} {value slice : Expr} {ds : List D} {k : Int} {j : Nat} {d : D} (hj : seqIndex? k ds.length = some j) (hd : ds[j]? = some d) (hlo : -(2 ^ 63) ≤ k := by decide) (hhi : k < 2 ^ 63 := by decide)
    (hs : ∀ o i, subscripted slice false o i = operate [o, i] (getItem o i) := by intros; with_unfolding_all rfl) : Sub w value slice (.tup ds) (.int k) d := fun c S κ σ ρ lv T s Q v1 v2 hw F h => by
  obtain ⟨u, rfl⟩ := F.isInt (.head _)
  obtain ⟨a, vs, rfl, hl, ht, F1⟩ := F.openTup (.tail _ (.head _))
  obtain ⟨v, hv⟩ := get_of_len hl hd
  refine item_tupleT ht hlo hhi (by rw [hl]; exact hj) hv (h v s (F1.temps fun p hp => ?_)) (hs _ _)
  rcases List.mem_cons.mp hp with rfl | hp
  · exact zip_mem hv hd
  · exact List.mem_append_right _ (.tail _ (.tail _ hp))
theorem sub_lst {w : World} {value slice : Expr} {ds : List D} {k : Int} {d : D} (h0 : 0 ≤ k) (hhi : k < 2 ^ 63) (hd : ds[k.toNat]? = some d)
    (hs : ∀ o i, subscripted slice false o i = operate [o, i] (getItem o i) := by intros; with_unfolding_all rfl) : Sub w value slice (.lst ds) (.int k) d := fun c S κ σ ρ lv T s Q v1 v2 hw F h => by
  obtain ⟨u, rfl⟩ := F.isInt (.head _)
  obtain ⟨a, vs, rfl, hl, ht, F1⟩ := F.openLst (.tail _ (.head _))
  obtain ⟨v, hv⟩ := get_of_len hl hd
  refine tail_any ht.typeIs slot_list_getitem.lookup (wpAny_getItem_list ht h0 hhi (by simpa using hv) (h v s (F1.temps fun p hp => ?_))) (hs _ _)
  rcases List.mem_cons.mp hp with rfl | hp
  · exact zip_mem hv hd
  · exact List.mem_append_right _ (.tail _ (.tail _ hp))
theorem sub_lstNeg {w : World} {value slice : Expr} {ds : List D} {k : Int} {d : D} (h0 : k < 0) (h1 : -(ds.length : Int) ≤ k) (hlo : -(2 ^ 63) ≤ k) (hd : ds[(k + ds.length).toNat]? = some d)
    (hs : ∀ o i, subscripted slice false o i = operate [o, i] (getItem o i) := by intros; with_unfolding_all rfl) : Sub w value slice (.lst ds) (.int k) d := fun c S κ σ ρ lv T s Q v1 v2 hw F h => by
  obtain ⟨u, rfl⟩ := F.isInt (.head _)
  obtain ⟨a, vs, rfl, hl, ht, F1⟩ := F.openLst (.tail _ (.head _))
  obtain ⟨v, hv⟩ := get_of_len hl hd
  refine tail_any ht.typeIs slot_list_getitem.lookup (wpAny_getItem_list_neg ht h0 (by simp [hl]; omega) hlo (by simpa [hl] using hv) (h v s (F1.temps fun p hp => ?_))) (hs _ _)
  rcases List.mem_cons.mp hp with rfl | hp
  · exact zip_mem hv hd
  · exact List.mem_append_right _ (.tail _ (.tail _ hp))

/-- an attribute that lies in the instance's own dict -/
structure At (w : World) (C : Addr) (name : Str) : Prop where
  plain : plainGet (hd.heap_1 w.params) C name = true
  dict : hasDictIn (hd.heap_1 w.params) C = true
  cls : ∃ attr, findIn (hd.heap_1 w.params) (.ref C) name = some attr ∧ noGet (hd.heap_1 w.params) attr = true
theorem isF_get {Z : Kn} {x : Str} {d : D} : ∀ {fs : List (Str × D)} {es : List DictEntry}, IsF Z fs es → fs.lookup x = some d → ∃ v, getL x es = some (some v) ∧ Is Z d v
  | _, _, .nil, h => by cases h
  | _, _, .cons (x := y) (h := hh) (t := t) (v := v) (es := es) i r, h => by
    rw [List.lookup_cons] at h
    unfold getL
    rw [List.find?_cons]
    cases q : x == y with
    | true =>
      rw [q] at h
      have e : (Value.str y t).isStr x = true := by have := eq_of_beq q; subst this; simp [Value.isStr]
      rw [e]
      cases h
      exact ⟨v, rfl, i⟩
    | false =>
      rw [q] at h
      have e : (Value.str y t).isStr x = false := by
        have : x ≠ y := fun e => by rw [e] at q; simp at q
        simp only [Value.isStr]; simpa using fun e => this e.symm
      rw [e]
      obtain ⟨u, hu, hi⟩ := isF_get r h
      refine ⟨u, ?_, hi⟩
      unfold getL at hu
      split at hu
      · rename_i e' q'; rw [q']; exact hu
      · split at hu <;> cases hu
theorem isF_none {Z : Kn} {x : Str} : ∀ {fs : List (Str × D)} {es : List DictEntry}, IsF Z fs es → fs.lookup x = none → es.find? (·.key.isStr x) = none ∧ es.any (·.refKey) = false
  | _, _, .nil, h => ⟨rfl, rfl⟩
  | _, _, .cons (x := y) (t := t) i r, h => by
    rw [List.lookup_cons] at h
    cases q : x == y with
    | true => rw [q] at h; cases h
    | false =>
      rw [q] at h
      have e : (Value.str y t).isStr x = false := by
        have : x ≠ y := fun e => by rw [e] at q; simp at q
        simp only [Value.isStr]; simpa using fun e => this e.symm
      have ih := isF_none r h
      rw [List.find?_cons, e]
      refine ⟨ih.1, ?_⟩
      rw [List.any_cons, ih.2]
      rfl
theorem isF_getNone {Z : Kn} {x : Str} {fs : List (Str × D)} {es : List DictEntry} (h : IsF Z fs es) (e : fs.lookup x = none) : getL x es = some none := by
  have q := isF_none h e
  unfold getL
  rw [q.1, q.2]; rfl
noncomputable def D.hands : D → Bool
  | .val (.ref _) => true
  | .val _ => false
  | _ => true
theorem Is.hands {Z : Kn} {d : D} {v : Value} (h : Is Z d v) (e : d.hands = true) : handedIn v = true := by
  cases h with
  | val v => cases v <;> first | rfl | cases e
  | _ => rfl
theorem getAttr_fs {C : Addr} {fs : List (Str × D)} {name : Str} {d : D} {v : Value} {Q : Value → Shared → Prop} {expr : Bool} (F : Fs c S κ σ ρ lv ((v, .obj C fs) :: T) s) (ha : At c.w C name) (hf : fs.lookup name = some d) (hd : d.hands = true)
    (h : ∀ u s', Fs c S κ σ ρ lv ((u, d) :: T) s' → Q u s') : wpAny (model PG c.w) c.A (getAttr v name expr) Q NoE s := by
  obtain ⟨σo, Z, hσ, own, m, lm, F⟩ := F
  have hi := F.tmp _ (.head _)
  cases hi with
  | obj hx hc hn hdx hz hfs =>
    obtain ⟨u, hu, hI⟩ := isF_get hfs hf
    obtain ⟨attr, h1, h2⟩ := ha.cls
    have I : InstAt s.heap _ _ C (some (dictOf _ _)) := ⟨(F.core.zk _ _ hx).1, hc, hn, by rw [hdx]; exact (F.core.zk _ _ hz).1⟩
    refine get_own F.core.fr F.core.ok.K I ha.plain ha.dict h1 h2 hu (hI.hands hd) (h u _ (Fs.tick (s := s) ⟨σo, Z, hσ, own, m, lm, F.core, F.fn, F.var, F.lov, fun p hp => ?_⟩ _))
    rcases List.mem_cons.mp hp with rfl | hp
    · exact hI
    · exact F.tmp p (.tail _ hp)
theorem Ev.attr {value : Expr} {name : Str} {pos : Pos} {C : Addr} {fs : List (Str × D)} {d : D} (h1 : Ev c S κ σ ρ lv value σ1 (.obj C fs)) (ha : At c.w C name) (hf : fs.lookup name = some d := by rfl) (hd : d.hands = true := by rfl)
    (he : ∀ env, eval (.Attribute value name pos) env = (do
      let o ← eval value env
      standAt pos.atName
      let r ← holding [o] (getAttr o name true)
      letTemporaryGo value o r
      pure r) := by intro _; with_unfolding_all rfl) : Ev c S κ σ ρ lv (.Attribute value name pos) σ1 d := fun T s Q F h =>
  Attribute_any_ (h1 T s _ F fun v s1 F1 => getAttr_fs F1 ha hf hd h) (he _)

/-- a method of the class's -/
structure Me (w : World) (C : Addr) (name : Str) (f : Addr) : Prop where
  plain : plainGet (hd.heap_1 w.params) C name = true
  cls : findIn (hd.heap_1 w.params) (.ref C) name = some (some (.ref f))
  fn : isFn (hd.heap_1 w.params) (.ref f) = true
  keep : keepIn (hd.heap_1 w.params) (.ref f) = true
theorem Ev.meth0 {value : Expr} {name : Str} {apos pos : Pos} {C f : Addr} {fs : List (Str × D)} {d : D} {need : Nat} (h1 : Ev c S κ σ ρ lv value σ1 (.obj C fs)) (hm : Me c.w C name f)
    (hf : Fn c.w (.ref f) need [.obj C fs] σ1 σ3 d) (hr : need ≤ c.room) (hn : fs.lookup name = Option.none := by rfl)
    (pl : Env → Sem Bool := fun env => (do return (← importBound value env).getD true))
    (he : ∀ env, eval (.Call (.Attribute value name apos) [] [] pos) env = (do
      let ov ← eval value env
      standAt apos.atName
      let (f, first) ← holding [ov] (getMethod ov name (pl env))
      callWith pos f first (backTo pos (starEach [] env)) []) := by intro _; rfl) : Ev c S κ σ ρ lv (.Call (.Attribute value name apos) [] [] pos) σ3 d := fun T s Q F h => by
  refine MethodCall_ (pl := pl (envAt c S κ)) (h1 T s _ F fun v s1 F1 => ?_) (he _)
  have F1' := F1
  obtain ⟨σo, Z, hσ, own, m, lm, F1⟩ := F1
  have hi := F1.tmp _ (.head _)
  cases hi with
  | @obj x dx _ ox _ _ _ hx hc hn' hdx hz hfs =>
    have I : InstAt s1.heap x ox C (some (dictOf _ _)) := ⟨(F1.core.zk _ _ hx).1, hc, hn', by rw [hdx]; exact (F1.core.zk _ _ hz).1⟩
    refine method_inst F1.core.fr F1.core.ok.K I hm.plain hm.cls hm.fn (isF_getNone hfs hn) (callWith_K0 F1'.K hm.keep (wpAny_call ?_))
    have ok := F1'.ok
    exact hf c S κ ρ lv T [.ref x] s1 c.A _ rfl ok.handled (by have := ok.depth; omega) (by have := ok.units; omega) rfl F1' fun v s3 F3 => h v s3 F3
theorem Ev.meth {value : Expr} {name : Str} {apos pos : Pos} {e : Expr} {es : List Expr} {C f : Addr} {fs : List (Str × D)} {ds : List D} {d : D} {need : Nat} (h1 : Ev c S κ σ ρ lv value σ1 (.obj C fs)) (hm : Me c.w C name f) (h2 : EvL c S κ σ1 ρ lv (e :: es) σ2 ds)
    (hf : Fn c.w (.ref f) need (.obj C fs :: ds) σ2 σ3 d) (hr : need ≤ c.room) (hn : fs.lookup name = Option.none := by rfl)
    (h3 : ∀ env, starEach (e :: es) env = (false, eval e env) :: starEach es env := by intro _; rfl) (h4 : ∀ env pos, ((backTo pos (starEach es env)).any fun x => x.1) = false := by intros; rfl)
    (pl : Env → Sem Bool := fun env => (do return (← importBound value env).getD true))
    (he : ∀ env, eval (.Call (.Attribute value name apos) (e :: es) [] pos) env = (do
      let ov ← eval value env
      standAt apos.atName
      let (f, first) ← holding [ov] (getMethod ov name (pl env))
      callWith pos f first (backTo pos (starEach (e :: es) env)) []) := by intro _; rfl) : Ev c S κ σ ρ lv (.Call (.Attribute value name apos) (e :: es) [] pos) σ3 d := fun T s Q F h => by
  refine MethodCall_ (pl := pl (envAt c S κ)) (h1 T s _ F fun v s1 F1 => ?_) (he _)
  have F1' := F1
  obtain ⟨σo, Z, hσ, own, m, lm, F1⟩ := F1
  have hi := F1.tmp _ (.head _)
  cases hi with
  | @obj x dx _ ox _ _ _ hx hc hn' hdx hz hfs =>
    have I : InstAt s1.heap x ox C (some (dictOf _ _)) := ⟨(F1.core.zk _ _ hx).1, hc, hn', by rw [hdx]; exact (F1.core.zk _ _ hz).1⟩
    refine method_inst F1.core.fr F1.core.ok.K I hm.plain hm.cls hm.fn (isF_getNone hfs hn) ?_
    refine callWith_K F1'.K hm.keep (h2.2 _ pos s1 _ F1' fun vs s2 hl F2 => ⟨F2.K, wpAny_call ?_⟩) (h3 _) (h4 _ _)
    have ok := F2.ok
    refine hf c S κ ρ lv T (.ref x :: vs) s2 c.A _ rfl ok.handled (by have := ok.depth; omega) (by have := ok.units; omega) (by simp [hl]) (F2.temps fun p hp => ?_) fun v s3 F3 => h v s3 F3
    rcases List.mem_cons.mp hp with rfl | hp
    · exact List.mem_append_right _ (.head _)
    · rcases List.mem_append.mp hp with hp | hp
      · exact List.mem_append_left _ hp
      · exact List.mem_append_right _ (.tail _ hp)
end
end Mine
namespace Mine
/-- an iterator, as a loop wants it -/
structure Wk (w : World) (A : Around) (target : Expr) (I : Addr) (fp wr : List Addr) (ds : List D) (Zs : Kn) (St : Nat → Heap → Prop) : Prop where
  sub : ∀ b ∈ wr, b ∈ fp
  live : ∀ i h, St i h → ∀ b ∈ wr, ∃ o, h.get? b = some o
  frame : ∀ i h h', St i h → (∀ b ∈ fp, ∀ o, h.get? b = some o → h'.get? b = some o) → St i h'
  next : ∀ i d (s : Shared) (Q : Value → Shared → Prop), ds[i]? = some d → St i s.heap →
    (∀ v h' tk (W : Kn), St (i + 1) h' → (∀ b o, b ∉ wr → s.heap.get? b = some o → h'.get? b = some o) → (∀ a o, W a o → h'.get? a = some o ∧ s.heap.get? a = none) →
      (∀ Z : Kn, (∀ a o, Zs a o → Z a o) → Is (fun a o => Z a o ∨ W a o) d v) → Q v { s with heap := h', toks := tk }) →
    wpAny (model PG w) A (pyNext (.ref I)) (fun r s1 => ∃ v, r = some v ∧ wpAny (model PG w) A (letOwnedTupleGo target (.ref I) v) (fun _ s2 => Q v s2) NoE s1) NoE s
  done : ∀ (s : Shared) (Q : Shared → Prop), St ds.length s.heap → (∀ h' tk, (∀ b o, b ∉ wr → s.heap.get? b = some o → h'.get? b = some o) → Q { s with heap := h', toks := tk }) →
    wpAny (model PG w) A (pyNext (.ref I)) (fun r s1 => r = none ∧ Q s1) NoE s
  self : ∀ i (s : Shared) (Q : Value → Shared → Prop) (E : Value → Shared → Prop), St i s.heap → Q (.ref I) s → wpAny (model PG w) A (pyIter (.ref I)) Q E s

section
variable {c : Cx} {S : Scope} {κ : Option Kp} {σ σ1 σ2 σ3 : Sg} {ρ ρ1 ρ2 : Rho} {lv : List (Str × D)} {T : List (Value × D)} {s : Shared} {H : List (Str × Addr × List D)}

/-- addresses at which nothing of ours lies -/
noncomputable def Off (c : Cx) (κ : Option Kp) (σ : Led) (Z : Kn) (own : Own) (wr : List Addr) : Prop :=
  wr.Nodup ∧ ∀ b ∈ wr, b ≠ c.L ∧ c.g.get? b = none ∧ (∀ p ∈ own, b ≠ p.2.1) ∧ (∀ p ∈ σ, b ≠ p.1) ∧ (∀ o, ¬ Z b o) ∧ ∀ k, κ = some k → b ≠ k.C
theorem Core.off1 {σ : Led} {Z : Kn} {own : Own} {m lm : Str → Option Value} (C : Core c κ σ Z own m lm s) {b : Addr} (hb : s.heap.get? b = none) : Off c κ σ Z own [b] := by
  have ne : ∀ {a : Addr} {o : Obj}, s.heap.get? a = some o → b ≠ a := fun e q => by rw [← q, hb] at e; cases e
  refine ⟨List.nodup_cons.mpr ⟨List.not_mem_nil, List.nodup_nil⟩, fun b' h' => ?_⟩
  rw [List.mem_singleton.mp h']
  refine ⟨?_, ?_, fun p hp => ne (C.ow _ (List.mem_map_of_mem hp)).1, fun p hp => ne (C.sg p hp).1, fun o hz => absurd rfl (ne (C.zk _ _ hz).1), fun k e => ?_⟩
  · obtain ⟨oL, _, _, hL, _⟩ := C.fr.ns; exact ne hL
  · cases q : c.g.get? b with
    | none => rfl
    | some o => exact absurd rfl (ne (C.fr.keep _ _ q))
  · obtain ⟨oC, _, _, hC, _⟩ := (C.kp k e).1; exact ne hC
/-- an expression that a loop goes over -/
noncomputable def EvIt (c : Cx) (S : Scope) (κ : Option Kp) (σ : Sg) (ρ : Rho) (lv : List (Str × D)) (target e : Expr) (σ' : Sg) (ds : List D) : Prop :=
  ∀ T s Q, Fs c S κ σ ρ lv T s →
    (∀ I fp wr St s2 σo Z own m lm, Rl Z σ' σo → FsAt c S κ σo ρ lv T s2 Z own m lm → Wk c.w c.A target I fp wr ds Z St → St 0 s2.heap → Off c κ σo Z own wr → (∀ b ∈ fp, b ∈ wr ∨ ∃ o, Z b o) → Q (.ref I) s2) →
    wpAny (model PG c.w) c.A (eval e (envAt c S κ)) (fun x s1 => wpAny (model PG c.w) c.A (pyIter x) Q NoE s1) NoE s
noncomputable def quiet (target : Expr) : Bool := match target with
  | .Tuple .. => false
  | .List .. => false
  | _ => true
theorem quiet_go {target : Expr} (h : quiet target = true) (it v : Value) : letOwnedTupleGo target it v = pure () := by
  cases target <;> first | rfl | cases h
/-- a plain iterator lets no tuple go -/
theorem plain_go {w : World} {A : Around} {target : Expr} {I : Addr} {o : Obj} {v : Value} {Q : Unit → Shared → Prop} (ho : s.heap.get? I = some o)
    (hc : o.cls = .type "list_iterator" ∨ o.cls = .type "range_iterator" ∨ o.cls = .type "str_ascii_iterator") (h : Q () s) :
    wpAny (model PG w) A (letOwnedTupleGo target (.ref I) v) Q NoE s := by
  have key : wpAny (model PG w) A (do
      let (.ref r, .ref a) := (Value.ref I, v) | return
      let o ← load r
      match o.cls, o.data with
      | .type n, .fields vs =>
        if ["enumerate", "zip", "dict_itemiterator", "dict_reverseitemiterator", "odict_iterator", "itertools.zip_longest", "itertools.pairwise"].contains n && vs[0]? == some (rawInt a) then
          rule "for.unpacks-the-owned-tuple"
          updateField r 0 .none
      | _, _ => pure ()) Q NoE s := by
    cases v with
    | ref a =>
      refine wpAny_bind (wpAny_load ho ?_)
      rcases hc with hc | hc | hc <;> rw [hc] <;> cases o.data <;> exact wpAny_pure h
    | _ => exact wpAny_pure h
  cases target <;> first | exact wpAny_pure h | exact key

theorem Wk.ofWalks {w : World} {A : Around} {target : Expr} {I : Addr} {fp wr : List Addr} {ds : List D} {Zs : Kn} {P : Nat → Value → Prop} {St : Nat → Heap → Prop} (W : Walks PG w A I fp wr ds.length P St)
    (live : ∀ i h, St i h → ∀ b ∈ wr, ∃ o, h.get? b = some o) (it : ∀ i h, St i h → ∃ o, h.get? I = some o ∧ (o.cls = .type "list_iterator" ∨ o.cls = .type "range_iterator" ∨ o.cls = .type "str_ascii_iterator"))
    (hP : ∀ i d v, ds[i]? = some d → P i v → ∀ Z : Kn, (∀ a o, Zs a o → Z a o) → Is Z d v) : Wk w A target I fp wr ds Zs St where
  sub := W.sub
  live := live
  frame := W.frame
  next := fun i d s Q hd st h => by
    refine W.item i s _ _ (List.getElem?_eq_some_iff.mp hd).1 st fun v h' tk hp st' hk => ⟨v, rfl, ?_⟩
    obtain ⟨o, ho, hc⟩ := it _ _ st'
    exact plain_go ho hc (h v h' tk (fun _ _ => False) st' hk (fun _ _ e => e.elim) fun Z hz => (hP i d v hd hp Z hz).mono fun _ _ h => .inl h)
  done := fun s Q st h => W.done s _ _ st fun h' tk hk => ⟨rfl, h h' tk hk⟩
  self := W.self

theorem size_none (h : Heap) : h.get? h.objs.size = none := by
  cases q : h.get? h.objs.size with
  | none => rfl
  | some o' => exact absurd (Heap.lt_size q) (Nat.lt_irrefl _)
/-- over a list -/
theorem EvIt.lst {target e : Expr} {ds : List D} (h1 : Ev c S κ σ ρ lv e σ1 (.lst ds)) : EvIt c S κ σ ρ lv target e σ1 ds := fun T s Q F h =>
  h1 T s _ F fun v s1 F1 => by
    have hh := handled F1
    obtain ⟨σo, Z, hσ, own, m, lm, F1⟩ := F1
    have hi := F1.tmp _ (.head _)
    obtain ⟨a, vs, rfl, hl, hz⟩ : ∃ a vs, v = .ref a ∧ IsL Z ds vs ∧ ∃ o n, Z a o ∧ o.cls = .type "list" ∧ o.data = .seq vs.toArray n := by
      cases hi with
      | lst h hc hd hl => exact ⟨_, _, rfl, hl, _, _, h, hc, hd⟩
    obtain ⟨o, n, hz, hc, hd⟩ := hz
    have hg := (F1.core.zk _ _ hz).1
    have hL : s1.heap.IsList a vs.toArray := ⟨o, hg, hc, n, hd⟩
    have hne : a ≠ s1.heap.objs.size := Nat.ne_of_lt (Heap.lt_size hg)
    have k : ∀ b o, s1.heap.get? b = some o → (s1.heap.push { cls := .type "list_iterator", data := .fields #[.ref a, .int 0 0] }).get? b = some o := fun b o e => Heap.get?_push_of_some _ e
    have F2 : FsAt c S κ σo ρ lv T { s1 with heap := s1.heap.push { cls := .type "list_iterator", data := .fields #[.ref a, .int 0 0] } } Z own m lm :=
      ⟨F1.core.grow s1.toks k, F1.fn, F1.var, F1.lov, fun p hp => F1.tmp p (.tail _ hp)⟩
    refine wpAny_pyIter_list hL ?_
    have W := Walks.list (prog := PG) (w := c.w) hh s1.heap.objs.size a hne vs.toArray
    have hsz : vs.toArray.size = ds.length := by simp [hl.length]
    rw [hsz] at W
    refine h s1.heap.objs.size _ _ _ _ σo Z own m lm hσ F2 (Wk.ofWalks W (fun i h st b hb => ?_) (fun i h st => ?_) fun i d v hdi hp Z' hz' => ?_) ⟨⟨_, Heap.get?_push_size _ rfl, rfl, rfl⟩, hL.at fun o e => k _ _ e⟩ ?_ fun b hb => ?_
    · obtain ⟨o', ho', _⟩ := st.1
      exact ⟨o', (List.mem_singleton.mp hb) ▸ ho'⟩
    · obtain ⟨o', ho', hc', _⟩ := st.1
      exact ⟨o', ho', .inl hc'⟩
    · obtain ⟨d', hd', hI⟩ := hl.get' (i := i) (v := v) (by simpa using hp)
      rw [hdi] at hd'; cases hd'
      exact hI.mono hz'
    · exact F1.core.off1 (size_none _)
    · rcases List.mem_cons.mp hb with rfl | hb
      · exact .inl (.head _)
      · rw [List.mem_singleton.mp hb]; exact .inr ⟨o, hz⟩

/-- the first ints from 0 on -/
noncomputable def upTo (n : Nat) : List D := (List.range n).map fun (i : Nat) => D.int (i : Int)
theorem upTo_length (n : Nat) : (upTo n).length = n := by simp [upTo]
theorem upTo_get {n i : Nat} (h : i < n) : (upTo n)[i]? = some (.int i) := by simp [upTo, h]
theorem upTo_is {n i : Nat} {d : D} (h : (upTo n)[i]? = some d) : i < n ∧ d = .int i := by
  have hi : i < n := by have := (List.getElem?_eq_some_iff.mp h).1; rwa [upTo_length] at this
  rw [upTo_get hi] at h; exact ⟨hi, (Option.some.inj h).symm⟩
theorem rangeSize_up (n : Nat) : Builtin.Range.rangeSize 0 (n : Int) 1 = n := by
  unfold Builtin.Range.rangeSize
  simp
  intro h
  omega
theorem rangeSmall_up {n : Nat} (hn : n < 2 ^ 62) : Builtin.Range.small 0 (n : Int) 1 = true := by
  unfold Builtin.Range.small
  rw [rangeSize_up]
  unfold Builtin.Range.rangeFitsLong
  simp
  omega
/-- range(e) -/
theorem EvIt.range {target e : Expr} {p pos : Pos} {n : Nat} {z : Int} (g : Bt c.w "range" (.type "range")) (h1 : Ev c S κ σ ρ lv e σ1 (.int z)) (hz : z = (n : Int)) (hn : n < 2 ^ 62)
    (hk : ∀ L a ccd cl cn C kcl, (match κ with | .none => envX cn S L a ccd cl | .some k => compEnvC k.scope kcl C (envX cn S L a ccd cl)).kindOf "range" = some .globalImplicit := by intros; rfl)
    (he : ∀ env, starEach [e] env = (false, eval e env) :: starEach [] env := by intro _; rfl) :
    EvIt c S κ σ ρ lv target (.Call (.Name "range" p) [e] [] pos) σ1 (upTo n) := fun T s Q F h => by
  subst hz
  have hk' : (envAt c S κ).kindOf "range" = some .globalImplicit := by
    have := hk c.L c.a c.ccd c.cl c.cn
    cases κ with
    | none => exact this default default
    | some k => exact this k.C k.cl
  refine wpAny_Call_NameR (name_boot F g.at_ g.boot g.ne (PyProof.Rows.callWith_type1 (spliced_more (h1 T s _ F fun v s1 F1 => spliced_none ?_) (he _)) (he _) rfl) hk' (by decide))
  have hh := handled F1
  obtain ⟨t, rfl⟩ := F1.isInt (.head _)
  refine call_range_1 ?_
  obtain ⟨σo, Z, hσ, own, m, lm, F1⟩ := F1
  generalize hH1 : s1.heap.push { cls := .type "range", data := .fields #[.int 0 s1.toks, .int (n : Int) t, .int 1 (s1.toks + 1)] } = H1
  have k1 : ∀ b o, s1.heap.get? b = some o → H1.get? b = some o := fun b o e => by rw [← hH1]; exact Heap.get?_push_of_some _ e
  have hr : IsRange H1 s1.heap.objs.size 0 (n : Int) 1 s1.toks t (s1.toks + 1) := by rw [← hH1]; exact Heap.get?_push_size _ rfl
  refine wpAny_pyIter_range hr (rangeSmall_up hn) ?_
  rw [rangeSize_up]
  have W := Walks.range (prog := PG) (w := c.w) hh H1.objs.size 0 1 n
  have k2 : ∀ b o, H1.get? b = some o → (H1.push { cls := .type "range_iterator", data := .fields #[rawInt 0, rawInt (n : Int), rawInt 1] }).get? b = some o := fun b o e => Heap.get?_push_of_some _ e
  have W' : Walks PG c.w c.A H1.objs.size [H1.objs.size] [H1.objs.size] (upTo n).length (fun i v => ∃ t, v = .int (0 + (i : Int) * 1) t) (fun i h => IsRangeIter h H1.objs.size (0 + (i : Nat) * 1) ((n : Int) - (i : Nat)) 1) := by rw [upTo_length]; exact W
  have C1 : Core c κ σo Z own m lm { s1 with heap := H1, toks := s1.toks + 1 + 1 } := F1.core.grow _ k1
  refine h H1.objs.size _ _ _ _ σo Z own m lm hσ ⟨C1.grow (s1.toks + 1 + 1) k2, F1.fn, F1.var, F1.lov, fun p hp => F1.tmp p (.tail _ hp)⟩ (Wk.ofWalks W' (fun i h st b hb => ⟨_, (List.mem_singleton.mp hb) ▸ st⟩) (fun i h st => ⟨_, st, .inr (.inl rfl)⟩) fun i d v hdi hp Z' hz' => ?_) ?_ ?_ fun b hb => .inl hb
  · obtain ⟨hi, rfl⟩ := upTo_is hdi
    obtain ⟨t', rfl⟩ := hp
    have : (0 : Int) + (i : Int) * 1 = i := by omega
    rw [this]; exact .int _ _
  · have e : (0 : Int) + ((0 : Nat) : Int) * 1 = 0 := by omega
    have e2 : (n : Int) - ((0 : Nat) : Int) = n := by omega
    show IsRangeIter _ _ _ _ _
    rw [e, e2]; exact Heap.get?_push_size _ rfl
  · exact C1.off1 (size_none _)

/-- what a for's target makes of an item -/
noncomputable def Tg (S : Scope) (target : Expr) (d : D) (ρ ρ' : Rho) : Prop :=
  ∀ (c : Cx) (σ : Sg) (T : List (Value × D)) (s : Shared) (v : Value) (Q : Unit → Shared → Prop), Fs c S .none σ ρ [] ((v, d) :: T) s → (∀ s', Fs c S .none σ ρ' [] T s' → Q () s') → wpAny (model PG c.w) c.A (assign target (envAt c S .none) v) Q NoE s
theorem tg_name {x : Str} {p : Pos} {d : D} (hk : S.names.lookup x = some .local := by rfl) : Tg S (.Name x p) d ρ ((x, .val d) :: ρ) := fun c σ T s v Q F h =>
  wpAny_assign_Name (store_val F.toH hk fun s' F' => h s' F'.toFs)
theorem tg_two {x y : Str} {p q tp : Pos} {k : Nat} {d1 d2 : D} (hx : S.names.lookup x = some .local := by rfl) (hy : S.names.lookup y = some .local := by rfl) :
    Tg S (.Tuple [.Name x p, .Name y q] k tp) (.tup [d1, d2]) ρ ((y, .val d2) :: (x, .val d1) :: ρ) := fun c σ T s v Q F h => by
  obtain ⟨a, vs, rfl, hl, ht, F2⟩ := F.openTup (.head _)
  obtain ⟨v1, v2, rfl⟩ := len2 hl
  refine wpAny_bind (wpAny_standAt (unpack_tuple (items := #[v1, v2]) (handled F) ht rfl rfl fun h' hk => ?_))
  have F3 := F2.grow (h' := h') s.toks fun b o e => hk b o (Nat.ne_of_lt (Heap.lt_size e)) e
  refine assignInOrder_cons (wpAny_assign_Name (store_val (T := (v2, d2) :: T) (F3.temps (T' := (v1, d1) :: (v2, d2) :: T) ?_).toH hx fun s4 F4 => ?_))
  · intro p hp
    rcases List.mem_cons.mp hp with rfl | hp
    · exact .head _
    · rcases List.mem_cons.mp hp with rfl | hp
      · exact .tail _ (.head _)
      · exact List.mem_append_right _ (.tail _ hp)
  · exact assignInOrder_cons (wpAny_assign_Name (store_val (T := T) F4 hy fun s5 F5 => assignInOrder_nil (h _ F5.toFs)))

/-- more is known from here on; the iterator's own objects are told -/
noncomputable abbrev Cx.at_ (c : Cx) (Zs : Kn) : Cx := { c with Z0 := Zs }
theorem Core.into {σ : Led} {Z : Kn} {own : Own} {m lm : Str → Option Value} (C : Core c κ σ Z own m lm s) {E : Led} (ho : Off c κ σ Z own (E.map (·.1))) (hE : ∀ p ∈ E, s.heap.get? p.1 = some p.2) : Core (c.at_ Z) κ (E ++ σ) Z own m lm s := by
  obtain ⟨hnd, ho⟩ := ho
  have ho' : ∀ p ∈ E, _ := fun p hp => ho p.1 (List.mem_map_of_mem hp)
  refine ⟨⟨C.ok.K, C.ok.top, C.ok.handled, C.ok.depth, C.ok.units, C.ok.gr⟩, C.sh, C.fr, fun p hp => ?_, C.ow, ?_, fun a o hz => ?_, fun a o hz => hz, fun k e => ?_⟩
  · rcases List.mem_append.mp hp with hp | hp
    · exact ⟨hE p hp, (ho' p hp).1, (ho' p hp).2.1⟩
    · exact C.sg p hp
  · obtain ⟨h1, h2, h3⟩ := List.pairwise_append.mp C.dj
    refine List.pairwise_append.mpr ⟨h1, List.pairwise_append.mpr ⟨List.pairwise_map.mp hnd, h2, fun p hp q hq => (ho' p hp).2.2.2.1 q hq⟩, fun p hp q hq => ?_⟩
    rcases List.mem_append.mp hq with hq | hq
    · obtain ⟨r, hr, rfl⟩ := List.mem_map.mp hp
      exact ((ho' q hq).2.2.1 r hr).symm
    · exact h3 p hp q hq
  · have zk := C.zk a o hz
    refine ⟨zk.1, zk.2.1, zk.2.2.1, fun p hp => ?_, .inl hz⟩
    rcases List.mem_append.mp hp with hp | hp
    · exact fun e => (ho' p hp).2.2.2.2.1 o (e ▸ hz)
    · exact zk.2.2.2.1 p hp
  · obtain ⟨h1, h2, h3, h4, h5, h6⟩ := C.kp k e
    refine ⟨h1, h2, h3, fun p hp => ?_, h5, h6⟩
    rcases List.mem_append.mp hp with hp | hp
    · exact ((ho' p hp).2.2.2.2.2 k e).symm
    · exact h4 p hp
/-- the iterator has moved on: its own objects are others, something may be new -/
theorem Core.turn {σ : Led} {Zs Z : Kn} {own : Own} {m lm : Str → Option Value} {E E' : Led} (C : Core (c.at_ Zs) κ (E ++ σ) Z own m lm s) {h' : Heap} (tk : Nat) {W : Kn} (hm : E'.map (·.1) = E.map (·.1)) (hE : ∀ p ∈ E', h'.get? p.1 = some p.2)
    (k : ∀ b o, b ∉ E.map (·.1) → s.heap.get? b = some o → h'.get? b = some o) (hw : ∀ a o, W a o → h'.get? a = some o ∧ s.heap.get? a = none) : Core (c.at_ Zs) κ (E' ++ σ) (fun a o => Z a o ∨ W a o) own m lm { s with heap := h', toks := tk } := by
  have nE : ∀ {b : Addr}, (∀ p ∈ E ++ σ, b ≠ p.1) → b ∉ E.map (·.1) := fun h q => by
    obtain ⟨p, hp, e⟩ := List.mem_map.mp q
    exact h p (List.mem_append_left _ hp) e.symm
  obtain ⟨d1, d2, d3⟩ := List.pairwise_append.mp C.dj
  obtain ⟨d4, d5, d6⟩ := List.pairwise_append.mp d2
  have EE : ∀ p ∈ E', ∃ q ∈ E, q.1 = p.1 := fun p hp => by
    have : p.1 ∈ E.map (·.1) := hm ▸ List.mem_map_of_mem hp
    obtain ⟨q, hq, e⟩ := List.mem_map.mp this
    exact ⟨q, hq, e⟩
  have hLn : c.L ∉ E.map (·.1) := fun q => by
    obtain ⟨p, hp, e⟩ := List.mem_map.mp q
    exact (C.sg p (List.mem_append_left _ hp)).2.1 e
  have hg : ∀ b o, c.g.get? b = some o → b ∉ E.map (·.1) := fun b o e q => by
    obtain ⟨p, hp, e'⟩ := List.mem_map.mp q
    have : c.g.get? p.1 = none := (C.sg p (List.mem_append_left _ hp)).2.2
    rw [e', e] at this; cases this
  refine ⟨C.ok, by have := C.sh; rw [this], ⟨?_, fun b o e => k b o (hg b o e) (C.fr.keep b o e), C.fr.above⟩, fun p hp => ?_, fun p hp => ?_, ?_, fun a o hz => ?_, fun a o hz => .inl (C.z0 a o hz), fun k' e => ?_⟩
  · obtain ⟨oL, es, ep, hLo, r⟩ := C.fr.ns
    exact ⟨oL, es, ep, k _ _ hLn hLo, r⟩
  · rcases List.mem_append.mp hp with hp | hp
    · obtain ⟨q, hq, e⟩ := EE p hp
      have := C.sg q (List.mem_append_left _ hq)
      exact ⟨hE p hp, e ▸ this.2.1, e ▸ this.2.2⟩
    · have := C.sg p (List.mem_append_right _ hp)
      refine ⟨k _ _ (fun q => ?_) this.1, this.2⟩
      obtain ⟨r, hr, e⟩ := List.mem_map.mp q
      exact d6 r hr p hp e
  · have := C.ow p hp
    refine ⟨k _ _ (nE fun q hq => d3 p hp q hq) this.1, this.2⟩
  · have key : ((own.map (·.2)) ++ (E' ++ σ)).map (·.1) = ((own.map (·.2)) ++ (E ++ σ)).map (·.1) := by simp only [List.map_append, hm]
    have : (((own.map (·.2)) ++ (E ++ σ)).map (·.1)).Pairwise (· ≠ ·) := List.pairwise_map.mpr C.dj
    rw [← key] at this
    exact List.pairwise_map.mp this
  · have tr : ∀ {b : Addr}, (∀ p ∈ E ++ σ, b ≠ p.1) → ∀ p ∈ E' ++ σ, b ≠ p.1 := fun h p hp => by
      rcases List.mem_append.mp hp with hp | hp
      · obtain ⟨q, hq, e⟩ := EE p hp
        rw [← e]; exact h q (List.mem_append_left _ hq)
      · exact h p (List.mem_append_right _ hp)
    rcases hz with hz | hz
    · have zk := C.zk a o hz
      exact ⟨k _ _ (nE zk.2.2.2.1) zk.1, zk.2.1, zk.2.2.1, tr zk.2.2.2.1, zk.2.2.2.2⟩
    · obtain ⟨h1, h2⟩ := hw a o hz
      have ne : ∀ {b : Addr} {ob : Obj}, s.heap.get? b = some ob → a ≠ b := fun e q => by rw [q, e] at h2; cases h2
      refine ⟨h1, ?_, fun p hp => ne (C.ow _ (List.mem_map_of_mem hp)).1, tr fun p hp => ne (C.sg p hp).1, .inr ?_⟩
      · obtain ⟨oL, _, _, hLo, _⟩ := C.fr.ns; exact ne hLo
      · show c.g.get? a = none
        cases q : c.g.get? a with
        | none => rfl
        | some o' => exact absurd rfl (ne (C.fr.keep _ _ q))
  · obtain ⟨h1, h2, h3, h4, h5, h6⟩ := C.kp k' e
    obtain ⟨oC, es, ep, hC, r⟩ := h1
    refine ⟨⟨oC, es, ep, k _ _ (nE h4) hC, r⟩, h2, h3, fun p hp => ?_, fun o ho => ?_, h6⟩
    · rcases List.mem_append.mp hp with hp | hp
      · obtain ⟨q, hq, e⟩ := EE p hp
        rw [← e]; exact h4 q (List.mem_append_left _ hq)
      · exact h4 p (List.mem_append_right _ hp)
    · rcases ho with ho | ho
      · exact h5 o ho
      · have := (hw _ _ ho).2; rw [hC] at this; cases this
/-- the loop is over -/
theorem Core.out {κ1 : Option Kp} {σ : Led} {Zs Z Z1 : Kn} {own : Own} {m lm : Str → Option Value} {E : Led} (C : Core (c.at_ Zs) κ (E ++ σ) Z own m lm s) {own1 : Own} {m1 lm1 : Str → Option Value} {s1 : Shared} {σ1 : Led} (C1 : Core c κ1 σ1 Zs own1 m1 lm1 s1) {h' : Heap} (tk : Nat)
    (k : ∀ b o, b ∉ E.map (·.1) → s.heap.get? b = some o → h'.get? b = some o) : Core c κ σ Z own m lm { s with heap := h', toks := tk } := by
  have nE : ∀ {b : Addr}, (∀ p ∈ E ++ σ, b ≠ p.1) → b ∉ E.map (·.1) := fun h q => by
    obtain ⟨p, hp, e⟩ := List.mem_map.mp q
    exact h p (List.mem_append_left _ hp) e.symm
  obtain ⟨d1, d2, d3⟩ := List.pairwise_append.mp C.dj
  obtain ⟨d4, d5, d6⟩ := List.pairwise_append.mp d2
  have hLn : c.L ∉ E.map (·.1) := fun q => by
    obtain ⟨p, hp, e⟩ := List.mem_map.mp q
    exact (C.sg p (List.mem_append_left _ hp)).2.1 e
  have hg : ∀ b o, c.g.get? b = some o → b ∉ E.map (·.1) := fun b o e q => by
    obtain ⟨p, hp, e'⟩ := List.mem_map.mp q
    have : c.g.get? p.1 = none := (C.sg p (List.mem_append_left _ hp)).2.2
    rw [e', e] at this; cases this
  refine ⟨C1.ok, by have := C.sh; rw [this], ⟨?_, fun b o e => k b o (hg b o e) (C.fr.keep b o e), C.fr.above⟩, fun p hp => ?_, fun p hp => ?_, ?_, fun a o hz => ?_, fun a o hz => C.z0 a o (C1.z0 a o hz), fun k' e => ?_⟩
  · obtain ⟨oL, es, ep, hLo, r⟩ := C.fr.ns
    exact ⟨oL, es, ep, k _ _ hLn hLo, r⟩
  · have := C.sg p (List.mem_append_right _ hp)
    refine ⟨k _ _ (fun q => ?_) this.1, this.2⟩
    obtain ⟨r, hr, e⟩ := List.mem_map.mp q
    exact d6 r hr p hp e
  · have := C.ow p hp
    exact ⟨k _ _ (nE fun q hq => d3 p hp q hq) this.1, this.2⟩
  · exact List.pairwise_append.mpr ⟨d1, d5, fun p hp q hq => d3 p hp q (List.mem_append_right _ hq)⟩
  · have zk := C.zk a o hz
    refine ⟨k _ _ (nE zk.2.2.2.1) zk.1, zk.2.1, zk.2.2.1, fun p hp => zk.2.2.2.1 p (List.mem_append_right _ hp), ?_⟩
    rcases zk.2.2.2.2 with h | h
    · exact (C1.zk a o h).2.2.2.2
    · exact .inr h
  · obtain ⟨h1, h2, h3, h4, h5, h6⟩ := C.kp k' e
    obtain ⟨oC, es, ep, hC, r⟩ := h1
    exact ⟨⟨oC, es, ep, k _ _ (nE h4) hC, r⟩, h2, h3, fun p hp => h4 p (List.mem_append_right _ hp), h5, h6⟩

/-- a for's turn ends -/
noncomputable def ForP (c : Cx) (S : Scope) (Zs : Kn) (E : Sg) (σ' : Sg) (ρ' : Rho) (bk : Option (Sg × Rho)) (P : Flow → Shared → Prop) (fl : Flow) (s : Shared) : Prop := match fl with
  | .next | .cont => Fs (c.at_ Zs) S .none (E ++ σ') ρ' [] [] s
  | .brk => ∃ b, bk = some b ∧ Fs (c.at_ Zs) S .none (E ++ b.1) b.2 [] [] s
  | .ret v => ∃ σr d, Fs (c.at_ Zs) S .none (E ++ σr) [] [] [(v, d)] s ∧ RetP P c S σr d
theorem ForP.next {Zs : Kn} {E : Sg} {σ' : Sg} {ρ' : Rho} {bk : Option (Sg × Rho)} {P : Flow → Shared → Prop} (hσ : σ = E ++ σ') (h : ∀ p ∈ ρ', ρ.lookup p.1 = some p.2) : NextP (ForP c S Zs E σ' ρ' bk P) (c.at_ Zs) S σ ρ := fun s F => by
  subst hσ
  exact F.weaken (fun x b e => h (x, b) (mem_lookup e)) (fun _ _ e => e) fun _ e => e
theorem ForP.ret {Zs : Kn} {E : Sg} {σ' σr : Sg} {ρ' : Rho} {bk : Option (Sg × Rho)} {P : Flow → Shared → Prop} {d : D} (hσ : σ = E ++ σr) (h : RetP P c S σr d) : RetP (ForP c S Zs E σ' ρ' bk P) (c.at_ Zs) S σ d := fun v s F => ⟨σr, d, hσ ▸ F, h⟩
theorem Ex.brk {pos : Pos} {rest : List Stmt} {P : Flow → Shared → Prop} (h : ∀ s, Fs c S .none σ ρ [] [] s → P .brk s) : Ex c S σ ρ (.Break pos :: rest) P := Ex.step fun s F => wpAny_Break (h s F)
theorem ForP.brk {Zs : Kn} {E : Sg} {σ' σb : Sg} {ρ' ρb : Rho} {P : Flow → Shared → Prop} (hσ : σ = E ++ σb) (h : ∀ p ∈ ρb, ρ.lookup p.1 = some p.2) : ∀ s, Fs (c.at_ Zs) S .none σ ρ [] [] s → ForP c S Zs E σ' ρ' (some (σb, ρb)) P .brk s := fun s F => by
  subst hσ
  exact ⟨_, rfl, F.weaken (fun x b e => h (x, b) (mem_lookup e)) (fun _ _ e => e) fun _ e => e⟩

theorem live_led {h : Heap} : ∀ {wr : List Addr}, (∀ b ∈ wr, ∃ o, h.get? b = some o) → ∃ E : Led, E.map (·.1) = wr ∧ ∀ p ∈ E, h.get? p.1 = some p.2
  | [], _ => ⟨[], rfl, fun _ h => nomatch h⟩
  | b :: r, hl => by
    obtain ⟨o, ho⟩ := hl b (.head _)
    obtain ⟨E, h1, h2⟩ := live_led (wr := r) fun b hb => hl b (.tail _ hb)
    refine ⟨(b, o) :: E, by simp [h1], fun p hp => ?_⟩
    rcases List.mem_cons.mp hp with rfl | hp
    · exact ho
    · exact h2 p hp

theorem Ex.for_ {target iter : Expr} {body : List Stmt} {pos : Pos} {rest : List Stmt} {P : Flow → Shared → Prop} {ds : List D} (σf : Nat → Sg) (ρf : Nat → Rho) (bk : Option (Sg × Rho)) (h1 : EvIt c S .none σ ρ [] target iter (σf 0) ds) (h0 : ∀ p ∈ ρf 0, ρ.lookup p.1 = some p.2)
    (turn : ∀ i d, ds[i]? = some d → ∃ ρ', Tg S target d (ρf i) ρ' ∧ ∀ Zs E, Ex (c.at_ Zs) S (E ++ σf i) ρ' body (ForP c S Zs E (σf (i + 1)) (ρf (i + 1)) bk P))
    (done : Ex c S (σf ds.length) (ρf ds.length) rest P) (brk : ∀ b, bk = some b → Ex c S b.1 b.2 rest P)
    (hs : ∀ env x, foldedSetIterable iter env x = pure x := by intros; rfl) : Ex c S σ ρ (.For target iter body [] pos :: rest) P := Ex.step fun s F => by
  refine wpAny_For (h1 [] s _ F fun I fp wr St s2 σ2 Zs own m lm hσ2 F2 W st off hfp => ?_) (hs _)
  have C2 := F2.core
  obtain ⟨E0, hE0, hE0'⟩ := live_led (W.live 0 _ st)
  have Fi : Fs (c.at_ Zs) S .none (exact_ E0 ++ σf 0) (ρf 0) [] [] s2 := by
    have F' : FsAt (c.at_ Zs) S .none (E0 ++ σ2) ρ [] [] s2 Zs own m lm := ⟨C2.into (by rw [hE0]; exact off) hE0', F2.fn, fun x b e => by
      cases F2.var x b e with
      | loc hk hv h => exact .loc hk hv h
      | cell hk hc hm hd h => exact .cell hk hc hm hd h
      | free hk hc hz hd h => exact .free hk hc hz hd h
      | frozen hk hc hz hd h => exact .frozen hk hc hz hd h
      | unset hk hc hm hd => exact .unset hk hc hm hd, F2.lov, F2.tmp⟩
    exact Fs.weaken ⟨_, Zs, Rl.app hσ2 (Rl.exact_ E0), own, m, lm, F'⟩ (fun x b e => h0 (x, b) (mem_lookup e)) (fun _ _ e => e) fun _ e => e
  have back : ∀ {σ' : Sg} {ρ' : Rho} {T' : List (Value × D)} {E : Led} {s3 : Shared} {h' : Heap} {tk : Nat}, Fs (c.at_ Zs) S .none (exact_ E ++ σ') ρ' [] T' s3 → (∀ b o, b ∉ E.map (·.1) → s3.heap.get? b = some o → h'.get? b = some o) → Fs c S .none σ' ρ' [] T' { s3 with heap := h', toks := tk } := fun {σ' ρ' T' E s3 h' tk} F3 k => by
    obtain ⟨l, Z3, hl, own3, m3, lm3, F3⟩ := F3
    obtain ⟨Eo, σo, rfl, hr1, hr2⟩ := hl.split
    obtain rfl := hr1.exact_eq
    exact ⟨σo, Z3, hr2, own3, m3, lm3, F3.core.out (Z1 := Zs) C2 tk k, F3.fn, fun x b e => by
      cases F3.var x b e with
      | loc hk hv h => exact .loc hk hv h
      | cell hk hc hm hd h => exact .cell hk hc hm hd h
      | free hk hc hz hd h => exact .free hk hc hz hd h
      | frozen hk hc hz hd h => exact .frozen hk hc hz hd h
      | unset hk hc hm hd => exact .unset hk hc hm hd, F3.lov, F3.tmp⟩
  have same : ∀ {E : Led} {σ' σ'' : Sg} {ρ' ρ'' : Rho} {T' T'' : List (Value × D)} {s4 s5 : Shared}, E.map (·.1) = wr → Fs (c.at_ Zs) S .none (exact_ E ++ σ') ρ' [] T' s4 → Fs (c.at_ Zs) S .none (exact_ E ++ σ'') ρ'' [] T'' s5 → ∀ b ∈ fp, ∀ o, s4.heap.get? b = some o → s5.heap.get? b = some o := fun {E σ' σ'' ρ' ρ'' T' T'' s4 s5} hE' F4 F5 b hb o e => by
    obtain ⟨l5, Z5, hl5, own5, m5, lm5, F5⟩ := F5
    obtain ⟨Eo5, σo5, rfl, hr5, _⟩ := hl5.split
    obtain rfl := hr5.exact_eq
    obtain ⟨l4, Z4, hl4, own4, m4, lm4, F4⟩ := F4
    obtain ⟨Eo4, σo4, rfl, hr4, _⟩ := hl4.split
    obtain rfl := hr4.exact_eq
    rcases hfp b hb with hw' | ⟨o', hz⟩
    · obtain ⟨p, hp, rfl⟩ := List.mem_map.mp (hE' ▸ hw')
      have q4 := (F4.core.sg p (List.mem_append_left _ hp)).1
      have q5 := (F5.core.sg p (List.mem_append_left _ hp)).1
      rw [q4] at e; cases e; exact q5
    · have q4 := (F4.core.zk _ _ (F4.core.z0 _ _ hz)).1
      have q5 := (F5.core.zk _ _ (F5.core.z0 _ _ hz)).1
      rw [q4] at e; cases e; exact q5
  refine codeAny_forLoop_any (fun k s' => ∃ i E, k = ds.length - i ∧ i ≤ ds.length ∧ E.map (·.1) = wr ∧ St i s'.heap ∧ Fs (c.at_ Zs) S .none (exact_ E ++ σf i) (ρf i) [] [] s') ?_ ds.length ⟨0, E0, by omega, by omega, hE0, st, Fi⟩
  rintro k s' ⟨i, E, rfl, hi, hE, st', F'⟩
  by_cases hlt : i < ds.length
  · have hd : ds[i]? = some ds[i] := List.getElem?_eq_getElem hlt
    obtain ⟨ρ', tg, hb⟩ := turn i _ hd
    refine wpAny_mono (W.next i _ s' (fun v s4 => ∃ E', E'.map (·.1) = wr ∧ St (i + 1) s4.heap ∧ Fs (c.at_ Zs) S .none (exact_ E' ++ σf i) (ρf i) [] [(v, ds[i])] s4) hd st' fun v h' tk Wn st2 kk hw hI => ?_) (fun r s3 hr => ?_) fun _ _ e => e.elim
    · obtain ⟨E', hE', hE2⟩ := live_led (W.live (i + 1) _ st2)
      refine ⟨E', hE', st2, ?_⟩
      obtain ⟨l3, Z3, hl3, own3, m3, lm3, F3⟩ := F'
      obtain ⟨Eo, σo, rfl, hr1, hr2⟩ := hl3.split
      obtain rfl := hr1.exact_eq
      have C3 := F3.core.turn (E' := E') (h' := h') tk (hE'.trans hE.symm) hE2 (by rw [hE]; exact kk) hw
      refine ⟨_, fun a o => Z3 a o ∨ Wn a o, Rl.app (hr2.mono fun _ _ h => .inl h) (Rl.exact_ E'), own3, m3, lm3, C3, F3.fn, fun x b e => (F3.var x b e).mono fun _ _ h => .inl h, fun x d e => (by cases e), fun p hp => ?_⟩
      rw [List.mem_singleton.mp hp]
      exact hI Z3 fun a o hz => F3.core.z0 a o hz
    · obtain ⟨v, rfl, hgo⟩ := hr
      refine wpAny_mono hgo (fun _ s4 h4 => ?_) fun _ _ e => e.elim
      obtain ⟨E', hE', st4, F4⟩ := h4
      refine wpAny_mono (tg (c.at_ Zs) _ [] s4 v (fun _ s5 => St (i + 1) s5.heap ∧ Fs (c.at_ Zs) S .none (exact_ E' ++ σf i) ρ' [] [] s5) F4 fun s5 F5 => ⟨W.frame _ _ _ st4 (same hE' F4 F5), F5⟩) (fun _ s5 h5 => ?_) fun _ _ e => e.elim
      obtain ⟨st5, F5⟩ := h5
      refine wpAny_mono (hb Zs (exact_ E') s5 F5) (fun f s6 h6 => ?_) fun _ _ e => e.elim
      have fr : ∀ s6, Fs (c.at_ Zs) S .none (exact_ E' ++ σf (i + 1)) (ρf (i + 1)) [] [] s6 → ∃ m, m < ds.length - i ∧ ∃ j E, m = ds.length - j ∧ j ≤ ds.length ∧ E.map (·.1) = wr ∧ St j s6.heap ∧ Fs (c.at_ Zs) S .none (exact_ E ++ σf j) (ρf j) [] [] s6 := fun s6 F6 =>
        ⟨ds.length - (i + 1), by omega, i + 1, E', rfl, hlt, hE', W.frame _ _ _ st5 (same hE' F5 F6), F6⟩
      cases f with
      | next => exact fr s6 h6
      | cont => exact fr s6 h6
      | brk =>
        obtain ⟨b, hb, F6⟩ := h6
        exact brk b hb s6 (back (tk := s6.toks) F6 fun _ _ _ e => e)
      | ret v =>
        obtain ⟨σr, d, F6, hP⟩ := h6
        exact hP v s6 (back (tk := s6.toks) F6 fun _ _ _ e => e)
  · have : i = ds.length := by omega
    subst this
    refine wpAny_mono (W.done s' (fun s3 => Fs c S .none (σf ds.length) (ρf ds.length) [] [] s3) st' fun h' tk kk => back F' (by rw [hE]; exact kk)) (fun r s3 hr => ?_) fun _ _ e => e.elim
    obtain ⟨rfl, F3⟩ := hr
    exact wpAny_execs_nil (done s3 F3)
end
end Mine
namespace Mine
section
variable {c : Cx} {S : Scope} {κ : Option Kp} {σ σ1 σ2 σ3 : Sg} {ρ ρ1 ρ2 : Rho} {lv : List (Str × D)} {T : List (Value × D)} {s : Shared} {H : List (Str × Addr × List D)}

/-- an entry of what is owned has turned -/
theorem Core.ownSet {σ : Led} {Z : Kn} {pre post : Own} {x : Str} {l : Addr} {o o' : Obj} {m lm : Str → Option Value} (C : Core c κ σ Z (pre ++ (x, l, o) :: post) m lm s) {h' : Heap} (tk : Nat) (hfr : Fr c.g c.L h' m) (k : ∀ a oa, a ≠ l → a ≠ c.L → s.heap.get? a = some oa → h'.get? a = some oa) (ho : h'.get? l = some o') :
    Core c κ σ Z (pre ++ (x, l, o') :: post) m lm { s with heap := h', toks := tk } := by
  have hw := C.ow (l, o) (List.mem_map.mpr ⟨(x, l, o), List.mem_append_right _ (.head _), rfl⟩)
  have hd := C.dj
  rw [List.map_append, List.map_cons] at hd
  have mp : ((pre ++ (x, l, o') :: post).map (·.2)) = pre.map (·.2) ++ (l, o') :: post.map (·.2) := by rw [List.map_append, List.map_cons]
  have mp0 : ((pre ++ (x, l, o) :: post).map (·.2)) = pre.map (·.2) ++ (l, o) :: post.map (·.2) := by rw [List.map_append, List.map_cons]
  have keys : ∀ p ∈ pre ++ (x, l, o') :: post, ∃ q ∈ pre ++ (x, l, o) :: post, q.2.1 = p.2.1 := fun p hp => by
    rcases List.mem_append.mp hp with hp | hp
    · exact ⟨p, List.mem_append_left _ hp, rfl⟩
    · rcases List.mem_cons.mp hp with rfl | hp
      · exact ⟨_, List.mem_append_right _ (.head _), rfl⟩
      · exact ⟨p, List.mem_append_right _ (.tail _ hp), rfl⟩
  rw [List.append_assoc, List.cons_append] at hd
  obtain ⟨d1, d2, d3⟩ := List.pairwise_append.mp hd
  obtain ⟨d4, d5⟩ := List.pairwise_cons.mp d2
  refine ⟨C.ok, by have := C.sh; rw [this], hfr, fun p hp => ?_, fun p hp => ?_, ?_, fun a oa hz => ?_, C.z0, fun kk e => ?_⟩
  · have := C.sg p hp
    exact ⟨k _ _ (fun q => d4 p (List.mem_append_right _ hp) q.symm) this.2.1 this.1, this.2⟩
  · rw [mp] at hp
    rcases List.mem_append.mp hp with hp | hp
    · have := C.ow p (by rw [mp0]; exact List.mem_append_left _ hp)
      exact ⟨k _ _ (d3 p hp (l, o) (.head _)) this.2.1 this.1, this.2⟩
    · rcases List.mem_cons.mp hp with rfl | hp
      · exact ⟨ho, hw.2⟩
      · have := C.ow p (by rw [mp0]; exact List.mem_append_right _ (.tail _ hp))
        exact ⟨k _ _ (fun q => d4 p (List.mem_append_left _ hp) q.symm) this.2.1 this.1, this.2⟩
  · rw [mp, List.append_assoc, List.cons_append]
    refine List.pairwise_append.mpr ⟨d1, List.pairwise_cons.mpr ⟨d4, d5⟩, fun p hp q hq => ?_⟩
    rcases List.mem_cons.mp hq with rfl | hq
    · exact d3 p hp (l, o) (.head _)
    · exact d3 p hp q (.tail _ hq)
  · have zk := C.zk a oa hz
    refine ⟨k _ _ (zk.2.2.1 _ (List.mem_append_right _ (.head _))) zk.2.1 zk.1, zk.2.1, fun p hp => ?_, zk.2.2.2⟩
    obtain ⟨q, hq, e⟩ := keys p hp
    rw [← e]; exact zk.2.2.1 q hq
  · obtain ⟨h1, h2, h3, h4, h5, h6⟩ := C.kp kk e
    obtain ⟨oC, es, ep, hC, r⟩ := h1
    refine ⟨⟨oC, es, ep, k _ _ (h3 _ (List.mem_append_right _ (.head _))) h2 hC, r⟩, h2, fun p hp => ?_, h4, h5, h6⟩
    obtain ⟨q, hq, e⟩ := keys p hp
    rw [← e]; exact h3 q hq
theorem VarIs.ownSet {Z : Kn} {pre post : Own} {x y : Str} {l : Addr} {o o' : Obj} {m : Str → Option Value} {b : B} (h : VarIs c S Z (pre ++ (x, l, o) :: post) m y b) (hy : y ≠ x) : VarIs c S Z (pre ++ (x, l, o') :: post) m y b := by
  have tr : ∀ {a : Addr} {oa : Obj}, (y, a, oa) ∈ pre ++ (x, l, o) :: post → (y, a, oa) ∈ pre ++ (x, l, o') :: post := fun h => by
    rcases List.mem_append.mp h with h | h
    · exact List.mem_append_left _ h
    · rcases List.mem_cons.mp h with e | h
      · cases e; exact absurd rfl hy
      · exact List.mem_append_right _ (.tail _ h)
  cases h with
  | loc hk hv hb =>
    refine .loc hk hv ?_
    cases hb with
    | val h => exact .val h
    | own hm ho hl => exact .own (tr hm) ho hl
    | obj hx hc hn hd hm hf => exact .obj hx hc hn hd (tr hm) hf
  | cell hk hc hm hd h => exact .cell hk hc (tr hm) hd h
  | free hk hc hz hd h => exact .free hk hc hz hd h
  | frozen hk hc hz hd h => exact .frozen hk hc hz hd h
  | unset hk hc hm hd => exact .unset hk hc (tr hm) hd

/-- x.append(e) -/
theorem Ex.append {x : Str} {np apos cpos pos : Pos} {e : Expr} {l : Addr} {ds : List D} {d : D} {rest : List Stmt} {P : Flow → Shared → Prop} (hx : ρ.lookup x = some (.own l ds)) (h1 : Ev c S .none σ ρ [] e σ1 d)
    (h2 : Ex c S σ1 ((x, .own l (ds ++ [d])) :: ρ) rest P) (hz : ds.length ≤ 1000) (hk : S.names.lookup x = some .local := by rfl) (hd : (x == ("__debug__" : Str)) = false := by decide)
    (hs : ∀ env, swapsWith (.Call (.Attribute (.Name x np) "append" apos) [e] [] cpos) none pos.line env = pure false := by intro _; rfl)
    (he : ∀ env, starEach [e] env = (false, eval e env) :: starEach [] env := by intro _; rfl)
    (pl : Env → Sem Bool := fun env => (do return (← importBound (.Name x np) env).getD true))
    (hm : ∀ env, eval (.Call (.Attribute (.Name x np) "append" apos) [e] [] cpos) env = (do
      let ov ← eval (.Name x np) env
      standAt apos.atName
      let (f, first) ← holding [ov] (getMethod ov "append" (pl env))
      callWith cpos f first (backTo cpos (starEach [e] env)) []) := by intro _; rfl) : Ex c S σ ρ (.Expr (.Call (.Attribute (.Name x np) "append" apos) [e] [] cpos) pos :: rest) P := Ex.step fun s F => by
  refine wpAny_Expr_any ?_ (by show interactive (envX _ _ _ _ _ _) = false; unfold interactive; rw [show (envX c.cn S c.L c.a c.ccd c.cl).scope.kind = S.kind from rfl, F.fnKind]; rfl) (hs _)
  refine MethodCall_ (pl := pl (envAt c S .none)) ?_ (hm _)
  have F0 := F
  obtain ⟨σo, Z, hσ, own, m, lm, F⟩ := F
  cases F.var _ _ hx with
  | loc _ hv hb =>
    cases hb with
    | own hm ho hl =>
      refine wpAny_Name (wpAny_loadName_local F.fn hk F.core.fr.ns hv ?_) hd
      have hg := (F.core.ow _ (List.mem_map_of_mem hm)).1
      rw [ho] at hg
      refine getMethod_list_append hg rfl rfl (callWith_method1 (spliced_more (h1 [] s _ F0 fun v s1 F1 => spliced_none ?_) (he _)) (he _) rfl)
      obtain ⟨σo1, Z1, hσ1, own1, m1, lm1, F1⟩ := F1
      cases F1.var _ _ hx with
      | loc _ hv1 hb1 =>
        cases hb1 with
        | @own _ _ o1 vs1 n1 hm1 ho1 hl1 =>
          obtain ⟨pre, post, rfl⟩ := List.append_of_mem hm1
          have hg1 := (F1.core.ow _ (List.mem_map_of_mem hm1)).1
          rw [ho1] at hg1
          refine wpAny_list_append_plain ⟨n1, hg1⟩ (fun h' hp hsb => ?_) (by rw [sizeLine_eq]; simp [hl1.length]; omega)
          obtain ⟨n', hg'⟩ := hp
          have hw1 := F1.core.ow _ (List.mem_map_of_mem hm1)
          have C' := F1.core.ownSet s1.toks ⟨F1.core.fr.ns.sameBut hsb hw1.2.1.symm, fun b ob e => (hsb.2 b fun q => by rw [q, hw1.2.2] at e; cases e).trans (F1.core.fr.keep b ob e), F1.core.fr.above⟩ (fun a oa h1 _ e => (hsb.2 a h1).trans e) hg'
          refine h2 _ ⟨σo1, Z1, hσ1, _, m1, lm1, C', F1.fn, fun y b hy => ?_, F1.lov, fun p hp => by cases hp⟩
          rcases lookup_set hy with ⟨rfl, rfl⟩ | ⟨hne, hy⟩
          · refine .loc hk hv1 (.own (n := n') (vs := vs1 ++ [v]) (List.mem_append_right _ (.head _)) ?_ (IsL.append (.cons (F1.tmp _ (.head _)) .nil) hl1))
            show (_ : Obj) = lstO (vs1 ++ [v]) n'
            simp
          · exact (F1.var y b hy).ownSet hne
/-- what is owned is left alone from here on -/
theorem Ex.freeze {x : Str} {l : Addr} {ds : List D} {sts : List Stmt} {P : Flow → Shared → Prop} (hx : ρ.lookup x = some (.own l ds)) (h : Ex c S σ ((x, .val (.lst ds)) :: ρ) sts P) (hk : S.names.lookup x = some .local := by rfl) : Ex c S σ ρ sts P := fun s F => by
  obtain ⟨σo, Z, hσ, own, m, lm, F⟩ := F
  cases F.var _ _ hx with
  | loc _ hv hb =>
    cases hb with
    | @own _ _ o vs n hm ho hl =>
      obtain ⟨pre, post, rfl⟩ := List.append_of_mem hm
      have C := F.core
      have hd := C.dj
      rw [List.map_append, List.map_cons, List.append_assoc, List.cons_append] at hd
      obtain ⟨d1, d2, d3⟩ := List.pairwise_append.mp hd
      obtain ⟨d4, d5⟩ := List.pairwise_cons.mp d2
      have hw := C.ow (l, o) (List.mem_map.mpr ⟨(x, l, o), List.mem_append_right _ (.head _), rfl⟩)
      have sub : ∀ {p : Str × Addr × Obj}, p ∈ pre ++ post → p ∈ pre ++ (x, l, o) :: post := fun hp => by
        rcases List.mem_append.mp hp with hp | hp
        · exact List.mem_append_left _ hp
        · exact List.mem_append_right _ (.tail _ hp)
      have tr : ∀ {y : Str} {a : Addr} {oa : Obj}, y ≠ x → (y, a, oa) ∈ pre ++ (x, l, o) :: post → (y, a, oa) ∈ pre ++ post := fun hy h => by
        rcases List.mem_append.mp h with h | h
        · exact List.mem_append_left _ h
        · rcases List.mem_cons.mp h with e | h
          · cases e; exact absurd rfl hy
          · exact List.mem_append_right _ h
      have le : ∀ a o', Z a o' → Z a o' ∨ (a = l ∧ o' = o) := fun _ _ h => .inl h
      have C' : Core c .none σo (fun a o' => Z a o' ∨ (a = l ∧ o' = o)) (pre ++ post) m lm s := by
        refine ⟨C.ok, C.sh, C.fr, C.sg, fun p hp => ?_, ?_, fun a o' hz => ?_, fun a o' hz => .inl (C.z0 a o' hz), fun k e => by cases e⟩
        · obtain ⟨q, hq, rfl⟩ := List.mem_map.mp hp
          exact C.ow _ (List.mem_map_of_mem (sub hq))
        · rw [List.map_append, List.append_assoc]
          exact List.pairwise_append.mpr ⟨d1, d5, fun p hp q hq => d3 p hp q (.tail _ hq)⟩
        · rcases hz with hz | ⟨rfl, rfl⟩
          · have zk := C.zk a o' hz
            exact ⟨zk.1, zk.2.1, fun p hp => zk.2.2.1 p (sub hp), zk.2.2.2⟩
          · refine ⟨hw.1, hw.2.1, fun p hp => ?_, fun p hp => d4 p (List.mem_append_right _ hp), .inr hw.2.2⟩
            rcases List.mem_append.mp hp with hp | hp
            · exact (d3 p.2 (List.mem_map_of_mem hp) _ (.head _)).symm
            · exact d4 p.2 (List.mem_append_left _ (List.mem_map_of_mem hp))
      refine h s ⟨σo, _, hσ.mono le, pre ++ post, m, lm, C', F.fn, fun y b hy => ?_, fun y d e => (by cases e), fun p hp => by cases hp⟩
      rcases lookup_set hy with ⟨rfl, rfl⟩ | ⟨hne, hy⟩
      · exact .loc hk hv (.val (.lst (.inr ⟨rfl, rfl⟩) (by rw [ho]) (by rw [ho]) (hl.mono le)))
      · cases F.var y b hy with
        | loc hk hv hb =>
          refine .loc hk hv ?_
          cases hb with
          | val h => exact .val (h.mono le)
          | own hm ho hl => exact .own (tr hne hm) ho (hl.mono le)
          | obj hx hc hn hd hm hf => exact .obj (le _ _ hx) hc hn hd (tr hne hm) (hf.mono le)
        | cell hk hc hm hd h => exact .cell hk hc (tr hne hm) hd (h.mono le)
        | free hk hc hz hd h => exact .free hk hc (le _ _ hz) hd (h.mono le)
        | frozen hk hc hz hd h => exact .frozen hk hc (le _ _ hz) hd (h.mono le)
        | unset hk hc hm hd => exact .unset hk hc (tr hne hm) hd

/-- self.f = e -/
structure Sa (w : World) (C : Addr) (name : Str) : Prop where
  set : findIn (hd.heap_1 w.params) (.ref C) "__setattr__" = some (some (.builtin "object.__setattr__"))
  over : plainOver (hd.heap_1 w.params) C = true
  taker : takerIn (hd.heap_1 w.params) C name = some none
  dict : hasDictIn (hd.heap_1 w.params) C = true
theorem isF_snoc {Z : Kn} {x : Str} {d : D} {v : Value} {hh : Int} {t : Tok} (hi : Is Z d v) : ∀ {fs : List (Str × D)} {es : List DictEntry}, IsF Z fs es → fs.lookup x = none → IsF Z (fs ++ [(x, d)]) (putL x hh (.str x t) v es)
  | _, _, .nil, _ => .cons hi .nil
  | _, _, .cons (x := y) (t := t') i r, h => by
    rw [List.lookup_cons] at h
    cases q : x == y with
    | true => rw [q] at h; cases h
    | false =>
      rw [q] at h
      have e : (Value.str y t').isStr x = false := by
        have : x ≠ y := fun e => by rw [e] at q; simp at q
        simp only [Value.isStr]; simpa using fun e => this e.symm
      unfold putL
      simp only [e, Bool.false_eq_true, if_false]
      exact .cons i (isF_snoc hi r h)
theorem isF_length {Z : Kn} : ∀ {fs : List (Str × D)} {es : List DictEntry}, IsF Z fs es → es.length = fs.length
  | _, _, .nil => rfl
  | _, _, .cons _ r => by simp [isF_length r]
/-- a name stored into an instance: nothing but its dict turns -/
theorem set_all {g : Heap} {L x₀ dx C : Addr} {m : Str → Option Value} {ox : Obj} {es : List DictEntry} {n : Nat} {name : Str} {v : Value} {w : World} {A : Around} {Q : Unit → Shared → Prop} (F : Fr g L s.heap m) (X : (hd.heap_1 w.params).In g)
    (I : InstAt s.heap x₀ ox C (some (dictOf es n))) (hdx : ox.dict = some dx) (hL : dx ≠ L) (hg : g.get? dx = none) (hat : s.heap.get? dx = some (dictOf es n)) (ha : Sa w C name) (hl : getL name es = some none) (hz : es.length ≤ 900)
    (h : ∀ h', Fr g L h' m → h'.get? dx = some (dictOf (putL name (PyData.keyHash w.params name) (.str name (s.toks + 1)) v es) (putN name es n)) → (∀ a o, a ≠ dx → a ≠ L → s.heap.get? a = some o → h'.get? a = some o) → Q () { s with heap := h', toks := s.toks + 2 }) :
    wpAny (model PG w) A (setAttr (.ref x₀) name v) Q NoE s := by
  let rest : Led := (List.range s.heap.objs.size).filterMap fun a => if a ≠ dx ∧ a ≠ L ∧ g.get? a = none then (s.heap.get? a).map fun o => (a, o) else none
  have hr : ∀ p ∈ rest, p.1 ≠ dx ∧ p.1 ≠ L ∧ g.get? p.1 = none ∧ s.heap.get? p.1 = some p.2 := fun p hp => by
    obtain ⟨a, _, e⟩ := List.mem_filterMap.mp hp
    split at e
    · rename_i q
      obtain ⟨o, ho, rfl⟩ := Option.map_eq_some_iff.mp e
      exact ⟨q.1, q.2.1, q.2.2, ho⟩
    · cases e
  have hin : ∀ a o, a ≠ dx → a ≠ L → g.get? a = none → s.heap.get? a = some o → (a, o) ∈ rest := fun a o h1 h2 h3 e => by
    refine List.mem_filterMap.mpr ⟨a, List.mem_range.mpr (Heap.lt_size e), ?_⟩
    rw [if_pos ⟨h1, h2, h3⟩, e]; rfl
  have N : News g L s.heap ((dx, dictOf es n) :: rest) := fun p hp => by
    rcases List.mem_cons.mp hp with rfl | hp
    · exact ⟨hat, hL, hg⟩
    · have := hr p hp; exact ⟨this.2.2.2, this.2.1, this.2.2.1⟩
  have hlen : ∀ (l : List DictEntry) (y : Str) (hh : Int) (k u : Value), (putL y hh k u l).length ≤ l.length + 1 := fun l y hh k u => by
    induction l with
    | nil => exact Nat.le_refl _
    | cons e r ih => unfold putL; split <;> simp <;> omega
  refine set_dict F X N I hdx ha.set ha.over ha.taker ha.dict (by rw [hl]; rfl) rfl (.head fun p hp => (hr p hp).1) (Nat.le_trans (hlen _ _ _ _ _) (by omega)) fun h' F' N' => h h' F' (N' _ (.head _)).1 fun a o h1 h2 e => ?_
  cases q : g.get? a with
  | some o' =>
    have := F.keep a o' q
    rw [e] at this; cases this
    exact F'.keep a o q
  | none => exact (N' _ (.tail _ (hin a o h1 h2 q e))).1
theorem Ex.setSelf {x f : Str} {np apos pos : Pos} {e : Expr} {x₀ dx C : Addr} {fs : List (Str × D)} {d : D} {rest : List Stmt} {P : Flow → Shared → Prop} (hx : ρ.lookup x = some (.obj x₀ dx C fs)) (h1 : Ev c S .none σ ρ [] e σ1 d) (ha : Sa c.w C f) (hf : fs.lookup f = Option.none)
    (h2 : Ex c S σ1 ((x, .obj x₀ dx C (fs ++ [(f, d)])) :: ρ) rest P) (hz : fs.length ≤ 100) (hk : S.names.lookup x = some .local := by rfl) (hd : (x == ("__debug__" : Str)) = false := by decide)
    (hs : ∀ env, swapsWith e (some (.Attribute (.Name x np) f apos)) pos.line env = pure false := by intro _; rfl) : Ex c S σ ρ (.Assign [.Attribute (.Name x np) f apos] e pos :: rest) P := Ex.step fun s F => by
  refine PySem.plainObj_wpAny_Assign_Attribute (h1 [] s _ F fun v s1 F1 => ?_) (hs _)
  obtain ⟨σo, Z, hσ, own, m, lm, F1⟩ := F1
  cases F1.var _ _ hx with
  | loc _ hv hb =>
    refine wpAny_Name (wpAny_loadName_local F1.fn hk F1.core.fr.ns hv ?_) hd
    cases hb with
    | @obj _ _ _ ox es n _ hx0 hc hn hdx hm hfs =>
      have hw := F1.core.ow _ (List.mem_map_of_mem hm)
      have I : InstAt s1.heap x₀ ox C (some (dictOf es n)) := ⟨(F1.core.zk _ _ hx0).1, hc, hn, by rw [hdx]; exact hw.1⟩
      refine set_all F1.core.fr F1.core.ok.K I hdx hw.2.1 hw.2.2 hw.1 ha (isF_getNone hfs hf) (by rw [isF_length hfs]; omega) fun h' F' hat k => ?_
      obtain ⟨pre, post, rfl⟩ := List.append_of_mem hm
      have C' := F1.core.ownSet (s1.toks + 2) F' k hat
      refine h2 _ ⟨σo, Z, hσ, _, m, lm, C', F1.fn, fun y b hy => ?_, F1.lov, fun p hp => by cases hp⟩
      rcases lookup_set hy with ⟨rfl, rfl⟩ | ⟨hne, hy⟩
      · exact .loc hk hv (.obj hx0 hc hn hdx (List.mem_append_right _ (.head _)) (isF_snoc (F1.tmp _ (.head _)) hfs hf))
      · exact (F1.var y b hy).ownSet hne
/-- self.f, while self is being made -/
theorem Ev.selfAttr {x f : Str} {np pos : Pos} {x₀ dx C : Addr} {fs : List (Str × D)} {d : D} (hx : ρ.lookup x = some (.obj x₀ dx C fs)) (ha : At c.w C f) (hf : fs.lookup f = some d := by rfl) (hd : d.hands = true := by rfl) (hk : S.names.lookup x = some .local := by rfl) (hb : (x == ("__debug__" : Str)) = false := by decide) :
    Ev c S .none σ ρ lv (.Attribute (.Name x np) f pos) σ d := fun T s Q F h => by
  refine Attribute_name ?_
  obtain ⟨σo, Z, hσ, own, m, lm, F⟩ := F
  cases F.var _ _ hx with
  | loc _ hv hb' =>
    refine wpAny_Name (wpAny_loadName_local F.fn hk F.core.fr.ns hv ?_) hb
    cases hb' with
    | @obj _ _ _ ox es n _ hx0 hc hn hdx hm hfs =>
      obtain ⟨u, hu, hI⟩ := isF_get hfs hf
      obtain ⟨attr, h1, h2⟩ := ha.cls
      have I : InstAt s.heap x₀ ox C (some (dictOf es n)) := ⟨(F.core.zk _ _ hx0).1, hc, hn, by rw [hdx]; exact (F.core.ow _ (List.mem_map_of_mem hm)).1⟩
      refine get_own F.core.fr F.core.ok.K I ha.plain ha.dict h1 h2 hu (hI.hands hd) (h u _ (Fs.tick (s := s) ⟨σo, Z, hσ, own, m, lm, F.core, F.fn, F.var, F.lov, fun p hp => ?_⟩ _))
      rcases List.mem_cons.mp hp with rfl | hp
      · exact hI
      · exact F.tmp p hp
end
end Mine
namespace Mine
/-- an __init__'s end: self bears its fields -/
noncomputable def RtO (c : Cx) (S : Scope) (σ : Sg) (x : Str) (x₀ dx C : Addr) (fs : List (Str × D)) (fl : Flow) (s : Shared) : Prop := retOf fl = .none ∧ Fs c S .none σ [(x, .obj x₀ dx C fs)] [] [] s
theorem NextP.rtO {c : Cx} {S : Scope} {σ : Sg} {ρ : Rho} {x : Str} {x₀ dx C : Addr} {fs : List (Str × D)} (h : ρ.lookup x = some (.obj x₀ dx C fs)) : NextP (RtO c S σ x x₀ dx C fs) c S σ ρ := fun s F =>
  ⟨rfl, F.weaken (fun y b e => by
    rw [List.lookup_cons] at e
    cases q : y == x with
    | true => rw [q] at e; cases e; rw [eq_of_beq q]; exact h
    | false => rw [q] at e; cases e) (fun _ _ e => e) fun _ e => e⟩

section
variable {c : Cx} {κ : Option Kp} {s : Shared}
/-- the head of what is told is known from here on -/
theorem Core.adopt {σ : Led} {a : Addr} {o : Obj} {Z : Kn} {own : Own} {m lm : Str → Option Value} (C : Core c κ ((a, o) :: σ) Z own m lm s) : Core c κ σ (fun b ob => Z b ob ∨ (b = a ∧ ob = o)) own m lm s := by
  have ha := C.sg (a, o) (.head _)
  obtain ⟨d1, d2, d3⟩ := List.pairwise_append.mp C.dj
  obtain ⟨d4, d5⟩ := List.pairwise_cons.mp d2
  refine ⟨C.ok, C.sh, C.fr, fun p hp => C.sg p (.tail _ hp), C.ow, List.pairwise_append.mpr ⟨d1, d5, fun p hp q hq => d3 p hp q (.tail _ hq)⟩, fun b ob hz => ?_, fun b ob hz => .inl (C.z0 b ob hz), fun kk e => ?_⟩
  · rcases hz with hz | ⟨rfl, rfl⟩
    · have zk := C.zk b ob hz
      exact ⟨zk.1, zk.2.1, zk.2.2.1, fun p hp => zk.2.2.2.1 p (.tail _ hp), zk.2.2.2.2⟩
    · exact ⟨ha.1, ha.2.1, fun p hp => (d3 p.2 (List.mem_map_of_mem hp) _ (.head _)).symm, fun p hp => d4 p hp, .inr ha.2.2⟩
  · obtain ⟨h1, h2, h3, h4, h5, h6⟩ := C.kp kk e
    refine ⟨h1, h2, h3, fun p hp => h4 p (.tail _ hp), fun ob hz => ?_, h6⟩
    rcases hz with hz | ⟨e', _⟩
    · exact h5 ob hz
    · exact h4 (a, o) (.head _) e'
end
section
variable {w : World} {f C : Addr} {need : Nat} {ds es : List D} {σ : Sg} {fs : List (Str × D)} {name qual : Str} {params : Arguments} {body : List Stmt} {scope : Scope} {dV kV doc pm cdv ct oc : Value} {an od : Option Addr} {osl : Array (Option Value)}

theorem Fn.clsX (x : Str) (names : List Str)
    (hm : makesIn (hd.heap_1 w.params) C = true) (hi : findIn (hd.heap_1 w.params) (.ref C) "__init__" = some (some (.ref f))) (hfn : isFn (hd.heap_1 w.params) (.ref f) = true)
    (ho : (hd.heap_1 w.params).lookup f = some ⟨oc, od, .func (fnOf name qual params body scope dV kV doc pm an cdv ct), osl⟩) (hcd : codeIn (hd.heap_1 w.params) cdv qual = true)
    (hbind : ∀ vs s, vs.length = (D.none :: ds).length → (hd.heap_1 w.params).In s.heap → ∃ us, BindsTo s (fnOf name qual params body scope dV kV doc pm an cdv ct) ⟨vs, []⟩ ((x :: names).zip (vs ++ us)) ∧ ∀ Z : Kn, IsL Z es us)
    (hn : (x :: names).Nodup) (hkind : ∀ y ∈ x :: names, scope.names.lookup y = some .local)
    (hcl : ∀ n, cellsFrom n scope.names [] = []) (hco : scope.isCoroutine = false) (hgen : scope.isGenerator = false) (hk : scope.kind = .function) (hneed : 2 ≤ need)
    (hb : ∀ (c : Cx) (x₀ dx : Addr), c.w = w → c.room + 2 = need → Ex c scope σ ((x, .obj x₀ dx C []) :: rho0 names (ds ++ es) []) body (RtO c scope σ x x₀ dx C fs)) :
    ∀ (c : Cx) (S : Scope) (κ : Option Kp) (ρ : Rho) (lv : List (Str × D)) (T : List (Value × D)) (vs : List Value) (s : Shared) (A : Around) (R : Result → Shared → Prop) (σo : Led) (Z : Kn) (own : Own) (m lm : Str → Option Value),
      c.w = w → A.handled = none → A.depth + need < recursionLimit → A.units + 8 * need + 64 < cLine → vs.length = ds.length → Rl Z σ σo → FsAt c S κ σo ρ lv (zipT vs ds T) s Z own m lm →
      (∀ (x₀ dx : Addr) (σ2 : Led) (Z2 : Kn) (ox : Obj) (es2 : List DictEntry) (n2 : Nat) (s2 : Shared), Rl Z2 σ σ2 → Core c κ ((dx, dictOf es2 n2) :: σ2) Z2 own m lm s2 → (∀ a o, Z a o → Z2 a o) → Z2 x₀ ox → ox.cls = .ref C → notCls ox = true → ox.dict = some dx → IsF Z2 fs es2 → R (.ok (.ret (.ref x₀))) s2) →
      codeAny (model PG w) A (.call (.ref C) ⟨vs, []⟩) R s := by
  intro c S κ ρ lv T vs s A R σo Z own m lm hw hh hdep hun' hl hσ F h
  subst hw
  have K0 := F.core
  have FK := K0.glob.1
  have FT := K0.glob.2
  obtain ⟨hp0, gens, drawn, tk0, os⟩ := s
  have hs0 := K0.sh
  refine make_core (makes_of FK hm) (looks_findIn FK hi) (fun self => bind_fn FK self (beq_iff_eq.mp hfn)) (.inl rfl) ?_
  -- the heap with the new dict and the new instance
  generalize hH : (hp0.push emptyDict).push (instObj C hp0.objs.size) = H
  have kH : ∀ b o, hp0.get? b = some o → H.get? b = some o := fun b o e => by rw [← hH]; exact Heap.get?_push_of_some _ (Heap.get?_push_of_some _ e)
  have hdx : H.get? hp0.objs.size = some (dictOf [] 0) := by rw [← hH]; exact Heap.get?_push_of_some _ (Heap.get?_push_size _ rfl)
  have hx0 : H.get? (hp0.objs.size + 1) = some (instObj C hp0.objs.size) := by
    rw [← hH]
    have : ((hp0.push emptyDict).push (instObj C hp0.objs.size)).get? (hp0.push emptyDict).objs.size = some (instObj C hp0.objs.size) := Heap.get?_push_size _ rfl
    rwa [Heap.size_push] at this
  have hsz : H.objs.size = hp0.objs.size + 2 := by rw [← hH, Heap.size_push, Heap.size_push]
  generalize hdxe : hp0.objs.size = dx at *
  have dx_none : hp0.get? dx = none := hdxe ▸ size_none hp0
  have x0_none : hp0.get? (dx + 1) = none := by
    cases q : hp0.get? (dx + 1) with
    | none => rfl
    | some o => have := Heap.lt_size q; rw [hdxe] at this; exact absurd this (by show ¬ (dx + 1 < dx); omega)
  have ne_dx : ∀ {b : Addr} {o : Obj}, hp0.get? b = some o → b ≠ dx := fun e q => by rw [q, dx_none] at e; cases e
  have ne_x0 : ∀ {b : Addr} {o : Obj}, hp0.get? b = some o → b ≠ dx + 1 := fun e q => by rw [q, x0_none] at e; cases e
  -- the callee's ground
  let g := hideAll H (σo.map (·.1) ++ [dx])
  have gin : ∀ b o, H.get? b = some o → (∀ p ∈ σo, b ≠ p.1) → b ≠ dx → g.get? b = some o := fun b o e n n' => hideAll_get _ e fun q => by
    rcases List.mem_append.mp q with q | q
    · obtain ⟨p, hp, e'⟩ := List.mem_map.mp q
      exact n p hp e'.symm
    · exact n' (List.mem_singleton.mp q)
  have gout : ∀ b o, g.get? b = some o → H.get? b = some o := fun b o e => of_hideAll _ e
  have cg : ∀ b o, c.g.get? b = some o → g.get? b = some o := fun b o e => gin b o (kH _ _ (K0.fr.keep b o e)) (fun p hp q => by
    have := (K0.sg p hp).2.2; rw [← q, e] at this; cases this) (ne_dx (K0.fr.keep b o e))
  have gnone : ∀ b, H.get? b = none → g.get? b = none := fun b e => by
    cases q : g.get? b with
    | none => rfl
    | some o => rw [gout b o q] at e; cases e
  have gσ : ∀ p ∈ σo, g.get? p.1 = none := fun p hp => hideAll_none _ (List.mem_append_left _ (List.mem_map_of_mem hp))
  have gdx : g.get? dx = none := hideAll_none _ (List.mem_append_right _ (.head _))
  have lH : ∀ {b : Addr} {o : Obj}, hp0.get? b = some o → b < H.objs.size := fun e => by have := Heap.lt_size e; rw [hdxe] at this; rw [hsz]; exact Nat.lt_trans this (by omega)
  obtain ⟨us, hB, hus⟩ := hbind (.ref (dx + 1) :: vs) ⟨H, gens, drawn, tk0, os⟩ (by simp [hl]) (FK.keeps kH)
  have hAd : (A.under (.builtin "type.__call__" ⟨.ref C :: vs, []⟩)).depth = A.depth + 1 := depth_under_make A C vs
  have hAu : (A.under (.builtin "type.__call__" ⟨.ref C :: vs, []⟩)).units ≤ A.units + 4 := by
    have := units_under_make A C vs
    omega
  refine codeAny_call_function (by rw [hAd]; omega) ((FK.keeps kH) _ _ ho) rfl hco hgen rfl (codeRec_of (FK.keeps kH) hcd) (hB _ _ _ _ ?_)
  refine wpAny_newFunctionEnv_cells hk (fun y hy => .inl (hkind _ (List.of_mem_zip (show (y.1, y.2) ∈ _ from hy)).1)) fun env he s1 x1 => ?_
  subst he
  refine ⟨(FT.nolimit.keeps kH).keeps x1.toInCall.keep, codeAny_func ?_⟩
  obtain ⟨h₁, tk, rfl, hk₁⟩ := x1.done
  have hns := x1.toInCall.ns
  rw [hcl] at hns ⊢
  let env' : Env := envX qual scope H.objs.size f cdv []
  let c' : Cx := { c with A := (A.under (.builtin "type.__call__" ⟨.ref C :: vs, []⟩)).deeper env', cn := qual, L := H.objs.size, a := f, ccd := cdv, cl := [], g := g, Z0 := fun a o => Z a o ∨ (a = dx + 1 ∧ o = instObj C dx), room := need - 2 }
  have ok' : c'.Ok := by
    refine ⟨K0.ok.K.keeps cg, K0.ok.top.keeps cg, hh, ?_, ?_, K0.ok.gr.keeps cg⟩
    · show (A.under _).depth + 1 + (need - 2) < _; rw [hAd]; omega
    · show (A.under _).units + 3 + 8 * (need - 2) + 64 < _; omega
  have hLdx : dx ≠ H.objs.size := by rw [hsz]; exact Nat.ne_of_lt (by omega)
  have hLx0 : dx + 1 ≠ H.objs.size := by rw [hsz]; exact Nat.ne_of_lt (by show dx + 1 < dx + 2; omega)
  have dxσ : ∀ p ∈ σo, dx ≠ p.1 := fun p hp q => ne_dx (K0.sg p hp).1 q.symm
  have x0σ : ∀ p ∈ σo, dx + 1 ≠ p.1 := fun p hp q => ne_x0 (K0.sg p hp).1 q.symm
  have core' : Core c' .none σo (fun a o => Z a o ∨ (a = dx + 1 ∧ o = instObj C dx)) [(x, dx, dictOf [] 0)] (bindL (envX qual scope H.objs.size f cdv []).kindOf ((x :: names).zip (.ref (dx + 1) :: vs ++ us)) fun _ => none) (fun _ => none) { heap := h₁, gens := gens, drawn := drawn, toks := tk, os := os } := by
    refine ⟨ok', ?_, ⟨hns, fun b o e => hk₁ b o (gout b o e), ?_⟩, fun p hp => ⟨hk₁ _ _ (kH _ _ (K0.sg p hp).1), Nat.ne_of_lt (lH (K0.sg p hp).1), gσ p hp⟩, fun p hp => ?_, ?_, fun a o hz => ?_, fun a o hz => hz, fun k e => (by cases e)⟩
    · injection hs0 with e1 e2 e3 e4 e5
      show _ = (⟨h₁, c.gens, c.drawn, tk, c.os⟩ : Shared)
      rw [e2, e3, e5]
    · show (hideAll H _).objs.size ≤ _; rw [hideAll_size]; exact Nat.le_refl _
    · rw [List.mem_singleton.mp hp]; exact ⟨hk₁ _ _ hdx, hLdx, gdx⟩
    · refine List.pairwise_cons.mpr ⟨fun p hp => dxσ p hp, (List.pairwise_append.mp K0.dj).2.1⟩
    · rcases hz with hz | ⟨rfl, rfl⟩
      · have zk := K0.zk a o hz
        exact ⟨hk₁ _ _ (kH _ _ zk.1), Nat.ne_of_lt (lH zk.1), fun p hp => by rw [List.mem_singleton.mp hp]; exact ne_dx zk.1, zk.2.2.2.1, .inl (.inl hz)⟩
      · exact ⟨hk₁ _ _ hx0, hLx0, fun p hp => by rw [List.mem_singleton.mp hp]; show dx + 1 ≠ dx; omega, x0σ, .inl (.inr ⟨rfl, rfl⟩)⟩
  have F' : Fs c' scope .none σ ((x, .obj (dx + 1) dx C []) :: rho0 names (ds ++ es) []) [] [] { heap := h₁, gens := gens, drawn := drawn, toks := tk, os := os } := by
    refine ⟨σo, _, hσ.mono (fun _ _ h => .inl h), _, _, _, core', hk, fun y b hy => ?_, fun y d e => (by cases e), fun p hp => (by cases hp)⟩
    have hIsL : IsL Z (ds ++ es) (vs ++ us) := IsL.append (hus Z) (IsL.of_zip hl fun p hp => F.tmp p (List.mem_append_left _ hp))
    have hnn := List.nodup_cons.mp hn
    rcases lookup_set hy with ⟨rfl, rfl⟩ | ⟨hne, hy⟩
    · have hkl := hkind y (.head _)
      refine .loc (v := .ref (dx + 1)) hkl ?_ (.obj (.inr ⟨rfl, rfl⟩) rfl rfl rfl (.head _) .nil)
      show bindL _ (names.zip (vs ++ us)) _ y = _
      rw [bindL_other _ _ _ hnn.1]
      have : (envX qual scope H.objs.size f cdv []).kindOf y = some .local := hkl
      rw [if_pos this]; exact if_pos rfl
    · have hy' : ((names.zip (ds ++ es)).map fun p => (p.1, B.val p.2)).lookup y = some b := by
        have : rho0 names (ds ++ es) [] = (names.zip (ds ++ es)).map fun p => (p.1, B.val p.2) := by unfold rho0; simp
        rw [this] at hy; exact hy
      obtain ⟨d, rfl⟩ := lookup_val _ _ hy'
      have hx' := lookup_zip _ _ hy'
      obtain ⟨v, hv, h1, h2⟩ := bind_get (kindOf := (envX qual scope H.objs.size f cdv []).kindOf) names (fun y' => if (envX qual scope H.objs.size f cdv []).kindOf x = some .local then (if y' = x then some (.ref (dx + 1)) else none) else none) (fun _ => none) hnn.2 hIsL hx'
      have hyn : y ∈ names := (List.of_mem_zip (mem_lookup hx')).1
      have hkl := hkind y (.tail _ hyn)
      refine .loc hkl ?_ (.val (hv.mono fun _ _ h => .inl h))
      have e1 := h1 hkl
      have hkx : (envX qual scope H.objs.size f cdv []).kindOf x = some .local := hkind x (.head _)
      show bindL _ (names.zip (vs ++ us)) _ y = _
      rw [if_pos hkx]
      simp only [if_pos hkx] at e1
      exact e1
  refine wpAny_mono (hb c' (dx + 1) dx rfl (by show need - 2 + 2 = need; omega) _ F') (fun fl s2 hr => ?_) fun _ _ e => e.elim
  obtain ⟨hret, hr⟩ := hr
  suffices hgoal : R (.ok (.ret (.ref (dx + 1)))) s2 by
    cases fl with
    | ret v => exact ⟨hret, hgoal⟩
    | _ => exact ⟨rfl, hgoal⟩
  obtain ⟨σ2, Z2, hσ2, own2, m2, lm2, F2⟩ := hr
  have m21 : σ2.map (·.1) = σo.map (·.1) := by rw [hσ2.fst, hσ.fst]
  have q12 : ∀ p ∈ σ2, ∃ q ∈ σo, q.1 = p.1 := fun p hp => by
    obtain ⟨q, hq, e⟩ := List.mem_map.mp (m21 ▸ List.mem_map_of_mem hp : p.1 ∈ σo.map (·.1))
    exact ⟨q, hq, e⟩
  have q21 : ∀ p ∈ σo, ∃ q ∈ σ2, q.1 = p.1 := fun p hp => by
    obtain ⟨q, hq, e⟩ := List.mem_map.mp (m21 ▸ List.mem_map_of_mem hp : p.1 ∈ σ2.map (·.1))
    exact ⟨q, hq, e⟩
  have t12 : ∀ {a : Addr}, (∀ p ∈ σo, a ≠ p.1) → ∀ p ∈ σ2, a ≠ p.1 := fun h p hp => by
    obtain ⟨q, hq, e⟩ := q12 p hp
    rw [← e]; exact h q hq
  have t21 : ∀ {a : Addr}, (∀ p ∈ σ2, a ≠ p.1) → ∀ p ∈ σo, a ≠ p.1 := fun h p hp => by
    obtain ⟨q, hq, e⟩ := q21 p hp
    rw [← e]; exact h q hq
  have C2 := F2.core
  have vself := F2.var x (.obj (dx + 1) dx C fs) (by simp)
  cases vself with
  | loc _ _ hbs =>
  cases hbs with
  | @obj _ _ _ ox2 es2 n2 _ hz2 hc2 hn2 hd2 hm2 hf2 =>
    have hdx2 := (C2.ow _ (List.mem_map_of_mem hm2)).1
    have kept : ∀ b o, hp0.get? b = some o → (∀ p ∈ σo, b ≠ p.1) → s2.heap.get? b = some o := fun b o e n => C2.fr.keep b o (gin b o (kH _ _ e) n (ne_dx e))
    have fresh : ∀ a o, Z2 a o → Z a o ∨ hp0.get? a = none := fun a o hz => by
      obtain ⟨_, _, h3, h4, h5⟩ := C2.zk a o hz
      rcases h5 with (h5 | ⟨rfl, _⟩) | h5
      · exact .inl h5
      · exact .inr x0_none
      · right
        cases q : hp0.get? a with
        | none => rfl
        | some o' => exact absurd (h5.symm.trans (gin a o' (kH _ _ q) (t21 h4) (ne_dx q))) (by simp)
    have dx_z : ∀ o, ¬ Z dx o := fun o hz => ne_dx (K0.zk _ _ hz).1 rfl
    have hL : ∀ p ∈ σo, c.L ≠ p.1 := fun p hp e => (K0.sg p hp).2.1 e.symm
    have le : ∀ a o, Z a o → Z2 a o := fun a o h => C2.z0 a o (.inl h)
    have ne : ∀ {a b : Addr} {ob : Obj}, hp0.get? a = none → hp0.get? b = some ob → a ≠ b := fun hn' e q => by rw [q, e] at hn'; cases hn'
    have offs : ∀ {a : Addr}, hp0.get? a = none → a ≠ c.L ∧ (∀ p ∈ own, a ≠ p.2.1) ∧ c.g.get? a = none := fun {a} hn' => by
      refine ⟨?_, fun p hp => ne hn' (K0.ow _ (List.mem_map_of_mem hp)).1, ?_⟩
      · obtain ⟨oL, _, _, hLo, _⟩ := K0.fr.ns; exact ne hn' hLo
      · cases q : c.g.get? a with
        | none => rfl
        | some o' => exact absurd rfl (ne hn' (K0.fr.keep _ _ q))
    have od := offs dx_none
    have z2dx : ∀ a o, Z2 a o → a ≠ dx := fun a o hz => (C2.zk a o hz).2.2.1 _ hm2
    refine h (dx + 1) dx σ2 Z2 ox2 es2 n2 s2 hσ2 ⟨K0.ok, ?_, ⟨?_, fun b o e => C2.fr.keep b o (cg b o e), K0.fr.above⟩, fun p hp => ?_, fun p hp => ?_, ?_, fun a o hz => ?_, fun a o hz => le a o (K0.z0 a o hz), fun k e => ?_⟩ le hz2 hc2 hn2 hd2 hf2
    · have e1 := C2.sh
      rw [e1]
    · obtain ⟨oL, es', ep, hLo, r⟩ := K0.fr.ns
      exact ⟨oL, es', ep, kept _ _ hLo hL, r⟩
    · rcases List.mem_cons.mp hp with rfl | hp
      · exact ⟨hdx2, od.1, od.2.2⟩
      · obtain ⟨q, hq, e⟩ := q12 p hp
        refine ⟨(C2.sg p hp).1, ?_, ?_⟩
        · rw [← e]; exact (K0.sg q hq).2.1
        · rw [← e]; exact (K0.sg q hq).2.2
    · have := K0.ow p hp
      exact ⟨kept _ _ this.1 fun q hq e => (List.pairwise_append.mp K0.dj).2.2 p hp q hq e, this.2⟩
    · obtain ⟨dj1, dj2, dj3⟩ := List.pairwise_append.mp K0.dj
      refine List.pairwise_append.mpr ⟨dj1, List.pairwise_cons.mpr ⟨fun p hp => t12 dxσ p hp, (List.pairwise_append.mp C2.dj).2.1⟩, fun p hp q hq => ?_⟩
      rcases List.mem_cons.mp hq with rfl | hq
      · obtain ⟨r, hr, rfl⟩ := List.mem_map.mp hp
        exact (od.2.1 r hr).symm
      · obtain ⟨r, hr, e⟩ := q12 q hq
        rw [← e]; exact dj3 p hp r hr
    · have zk2 := C2.zk a o hz
      have nd : ∀ p ∈ (dx, dictOf es2 n2) :: σ2, a ≠ p.1 := fun p hp => by
        rcases List.mem_cons.mp hp with rfl | hp
        · exact z2dx a o hz
        · exact zk2.2.2.2.1 p hp
      rcases fresh a o hz with hz' | hn'
      · have zk := K0.zk a o hz'
        exact ⟨zk2.1, zk.2.1, zk.2.2.1, nd, zk.2.2.2.2⟩
      · have := offs hn'
        exact ⟨zk2.1, this.1, this.2.1, nd, .inr this.2.2⟩
    · obtain ⟨h1, h2, h3, h4, h5, h6⟩ := K0.kp k e
      obtain ⟨oC, es', ep, hCo, r⟩ := h1
      refine ⟨⟨oC, es', ep, kept _ _ hCo h4, r⟩, h2, h3, fun p hp => ?_, fun o ho => ?_, h6⟩
      · rcases List.mem_cons.mp hp with rfl | hp
        · exact ne_dx hCo
        · exact t12 h4 p hp
      · rcases fresh _ _ ho with hz' | hn'
        · exact h5 o hz'
        · rw [hCo] at hn'; cases hn'
theorem Fn.cls_ (x : Str) (names : List Str)
    (hm : makesIn (hd.heap_1 w.params) C = true) (hi : findIn (hd.heap_1 w.params) (.ref C) "__init__" = some (some (.ref f))) (hfn : isFn (hd.heap_1 w.params) (.ref f) = true)
    (ho : (hd.heap_1 w.params).lookup f = some ⟨oc, od, .func (fnOf name qual params body scope dV kV doc pm an cdv ct), osl⟩) (hcd : codeIn (hd.heap_1 w.params) cdv qual = true)
    (hbind : ∀ vs s, vs.length = (D.none :: ds).length → (hd.heap_1 w.params).In s.heap → ∃ us, BindsTo s (fnOf name qual params body scope dV kV doc pm an cdv ct) ⟨vs, []⟩ ((x :: names).zip (vs ++ us)) ∧ ∀ Z : Kn, IsL Z es us)
    (hn : (x :: names).Nodup) (hkind : ∀ y ∈ x :: names, scope.names.lookup y = some .local)
    (hcl : ∀ n, cellsFrom n scope.names [] = []) (hco : scope.isCoroutine = false) (hgen : scope.isGenerator = false) (hk : scope.kind = .function) (hneed : 2 ≤ need)
    (hb : ∀ (c : Cx) (x₀ dx : Addr), c.w = w → c.room + 2 = need → Ex c scope σ ((x, .obj x₀ dx C []) :: rho0 names (ds ++ es) []) body (RtO c scope σ x x₀ dx C fs)) :
    Fn w (.ref C) need ds σ σ (.obj C fs) := by
  intro c S κ ρ lv T vs s A R hw hh hdep hun' hl F h
  obtain ⟨σo, Z, hσ, own, m, lm, F⟩ := F
  refine Fn.clsX x names hm hi hfn ho hcd hbind hn hkind hcl hco hgen hk hneed hb c S κ ρ lv T vs s A R σo Z own m lm hw hh hdep hun' hl hσ F fun x₀ dx σ2 Z2 ox es2 n2 s2 hσ2 C2 le hz hc hn' hd hf => ?_
  have le2 : ∀ a o, Z2 a o → Z2 a o ∨ (a = dx ∧ o = dictOf es2 n2) := fun _ _ h => .inl h
  have le3 : ∀ a o, Z a o → Z2 a o ∨ (a = dx ∧ o = dictOf es2 n2) := fun a o h => .inl (le a o h)
  refine h (.ref x₀) s2 ⟨σ2, _, hσ2.mono le2, own, m, lm, C2.adopt, F.fn, fun y b e => (F.var y b e).mono le3, fun y d e => ?_, fun p hp => ?_⟩
  · obtain ⟨v, e1, e2⟩ := F.lov y d e
    exact ⟨v, e1, e2.mono le3⟩
  · rcases List.mem_cons.mp hp with rfl | hp
    · exact .obj (.inl hz) hc hn' hd (.inr ⟨rfl, rfl⟩) (hf.mono le2)
    · exact (F.tmp p (List.mem_append_right _ hp)).mono le3
end
end Mine
namespace Mine
section
variable {c : Cx} {S : Scope} {κ : Option Kp} {σ σ1 σ2 σ3 : Sg} {ρ ρ1 ρ2 : Rho} {lv : List (Str × D)} {T : List (Value × D)} {s : Shared}

theorem ne_fst {l l' : Led} (h : l'.map (·.1) = l.map (·.1)) {a : Addr} (k : ∀ p ∈ l, a ≠ p.1) : ∀ p ∈ l', a ≠ p.1 := fun p hp => by
  obtain ⟨q, hq, e⟩ := List.mem_map.mp (h ▸ List.mem_map_of_mem hp : p.1 ∈ l.map (·.1))
  rw [← e]; exact k q hq
/-- the head of what is told turns -/
theorem Core.headSet {σ : Led} {a : Addr} {o o' : Obj} {Z : Kn} {own : Own} {m lm : Str → Option Value} (C : Core c κ ((a, o) :: σ) Z own m lm s) {h' : Heap} (tk : Nat) (ho : h'.get? a = some o')
    (k : ∀ b ob, b ≠ a → s.heap.get? b = some ob → h'.get? b = some ob) : Core c κ ((a, o') :: σ) Z own m lm { s with heap := h', toks := tk } := by
  have ha := C.sg (a, o) (.head _)
  obtain ⟨d1, d2, d3⟩ := List.pairwise_append.mp C.dj
  obtain ⟨d4, d5⟩ := List.pairwise_cons.mp d2
  refine ⟨C.ok, by have := C.sh; rw [this], ⟨?_, fun b ob e => k b ob (fun q => by have := ha.2.2; rw [← q, e] at this; cases this) (C.fr.keep b ob e), C.fr.above⟩, fun p hp => ?_, fun p hp => ?_, ?_, fun b ob hz => ?_, C.z0, fun kk e => ?_⟩
  · obtain ⟨oL, es, ep, hLo, r⟩ := C.fr.ns
    exact ⟨oL, es, ep, k _ _ (Ne.symm ha.2.1) hLo, r⟩
  · rcases List.mem_cons.mp hp with rfl | hp
    · exact ⟨ho, ha.2⟩
    · have := C.sg p (.tail _ hp)
      exact ⟨k _ _ (d4 p hp).symm this.1, this.2⟩
  · have := C.ow p hp
    exact ⟨k _ _ (d3 p hp (a, o) (.head _)) this.1, this.2⟩
  · refine List.pairwise_append.mpr ⟨d1, List.pairwise_cons.mpr ⟨d4, d5⟩, fun p hp q hq => ?_⟩
    rcases List.mem_cons.mp hq with rfl | hq
    · exact d3 p hp (a, o) (.head _)
    · exact d3 p hp q (.tail _ hq)
  · have zk := C.zk b ob hz
    exact ⟨k _ _ (zk.2.2.2.1 (a, o) (.head _)) zk.1, zk.2.1, zk.2.2.1, ne_fst (l := (a, o) :: σ) (l' := (a, o') :: σ) rfl zk.2.2.2.1, zk.2.2.2.2⟩
  · obtain ⟨h1, h2, h3, h4, h5, h6⟩ := C.kp kk e
    obtain ⟨oC, es, ep, hC, r⟩ := h1
    exact ⟨⟨oC, es, ep, k _ _ (h4 (a, o) (.head _)) hC, r⟩, h2, h3, ne_fst (l := (a, o) :: σ) (l' := (a, o') :: σ) rfl h4, h5, h6⟩
/-- the head of what is told is let go -/
theorem Core.dropHead {σ : Led} {a : Addr} {o : Obj} {Z : Kn} {own : Own} {m lm : Str → Option Value} (C : Core c .none ((a, o) :: σ) Z own m lm s) {h' : Heap} (tk : Nat) (k : ∀ b ob, b ≠ a → s.heap.get? b = some ob → h'.get? b = some ob) :
    Core c .none σ Z own m lm { s with heap := h', toks := tk } := by
  have ha := C.sg (a, o) (.head _)
  obtain ⟨d1, d2, d3⟩ := List.pairwise_append.mp C.dj
  obtain ⟨d4, d5⟩ := List.pairwise_cons.mp d2
  refine ⟨C.ok, by have := C.sh; rw [this], ⟨?_, fun b ob e => k b ob (fun q => by have := ha.2.2; rw [← q, e] at this; cases this) (C.fr.keep b ob e), C.fr.above⟩, fun p hp => ?_, fun p hp => ?_, List.pairwise_append.mpr ⟨d1, d5, fun p hp q hq => d3 p hp q (.tail _ hq)⟩, fun b ob hz => ?_, C.z0, fun kk e => by cases e⟩
  · obtain ⟨oL, es, ep, hLo, r⟩ := C.fr.ns
    exact ⟨oL, es, ep, k _ _ (Ne.symm ha.2.1) hLo, r⟩
  · have := C.sg p (.tail _ hp)
    exact ⟨k _ _ (d4 p hp).symm this.1, this.2⟩
  · have := C.ow p hp
    exact ⟨k _ _ (d3 p hp (a, o) (.head _)) this.1, this.2⟩
  · have zk := C.zk b ob hz
    exact ⟨k _ _ (zk.2.2.2.1 (a, o) (.head _)) zk.1, zk.2.1, zk.2.2.1, fun p hp => zk.2.2.2.1 p (.tail _ hp), zk.2.2.2.2⟩
/-- a comprehension begins: its list and its block are new -/
theorem Core.enterComp {σ : Led} {Z : Kn} {own : Own} {m lm lm' : Str → Option Value} (C : Core c .none σ Z own m lm s) {a : Addr} {o : Obj} (k0 : Kp) {h' : Heap} (tk : Nat) (ha : s.heap.get? a = none) (hC : s.heap.get? k0.C = none) (hne : a ≠ k0.C)
    (ho : h'.get? a = some o) (hns : h'.Ns k0.C lm') (hk : k0.scope.kind = .function) (k : ∀ b ob, s.heap.get? b = some ob → h'.get? b = some ob) : Core c (some k0) ((a, o) :: σ) Z own m lm' { s with heap := h', toks := tk } := by
  have ne : ∀ {b b' : Addr} {ob : Obj}, s.heap.get? b = none → s.heap.get? b' = some ob → b ≠ b' := fun e e' q => by rw [q, e'] at e; cases e
  have gn : ∀ {b : Addr}, s.heap.get? b = none → c.g.get? b = none := fun {b} e => by
    cases q : c.g.get? b with
    | none => rfl
    | some o' => exact absurd rfl (ne e (C.fr.keep _ _ q))
  have nL : ∀ {b : Addr}, s.heap.get? b = none → b ≠ c.L := fun e => by obtain ⟨oL, _, _, hLo, _⟩ := C.fr.ns; exact ne e hLo
  obtain ⟨d1, d2, d3⟩ := List.pairwise_append.mp C.dj
  refine ⟨C.ok, by have := C.sh; rw [this], C.fr.keeps k, fun p hp => ?_, C.ow.keeps k, ?_, fun b ob hz => ?_, C.z0, fun kk e => ?_⟩
  · rcases List.mem_cons.mp hp with rfl | hp
    · exact ⟨ho, nL ha, gn ha⟩
    · have := C.sg p hp
      exact ⟨k _ _ this.1, this.2⟩
  · refine List.pairwise_append.mpr ⟨d1, List.pairwise_cons.mpr ⟨fun p hp => ne ha (C.sg p hp).1, d2⟩, fun p hp q hq => ?_⟩
    rcases List.mem_cons.mp hq with rfl | hq
    · exact (ne ha (C.ow p hp).1).symm
    · exact d3 p hp q hq
  · have zk := C.zk b ob hz
    refine ⟨k _ _ zk.1, zk.2.1, zk.2.2.1, fun p hp => ?_, zk.2.2.2.2⟩
    rcases List.mem_cons.mp hp with rfl | hp
    · exact (ne ha zk.1).symm
    · exact zk.2.2.2.1 p hp
  · cases e
    refine ⟨hns, nL hC, fun p hp => ne hC (C.ow _ (List.mem_map_of_mem hp)).1, fun p hp => ?_, fun ob hz => ne hC (C.zk _ _ hz).1 rfl, gn hC, hk⟩
    rcases List.mem_cons.mp hp with rfl | hp
    · exact hne.symm
    · exact ne hC (C.sg p hp).1
/-- its block is let go -/
theorem Core.dropK {σ : Led} {k0 : Kp} {Z : Kn} {own : Own} {m lm : Str → Option Value} (C : Core c (some k0) σ Z own m lm s) {h' : Heap} (hs : Heap.SameBut k0.C s.heap h') (lm' : Str → Option Value) : Core c .none σ Z own m lm' { s with heap := h' } := by
  obtain ⟨h1, h2, h3, h4, h5, h6, h7⟩ := C.kp k0 rfl
  have k : ∀ b ob, b ≠ k0.C → s.heap.get? b = some ob → h'.get? b = some ob := fun b ob hb e => (hs.2 b hb).trans e
  refine ⟨C.ok, by have := C.sh; rw [this], ⟨?_, fun b ob e => k b ob (fun q => by rw [q] at e; rw [h6] at e; cases e) (C.fr.keep b ob e), C.fr.above⟩, fun p hp => ?_, fun p hp => ?_, C.dj, fun b ob hz => ?_, C.z0, fun kk e => by cases e⟩
  · obtain ⟨oL, es, ep, hLo, r⟩ := C.fr.ns
    exact ⟨oL, es, ep, k _ _ (Ne.symm h2) hLo, r⟩
  · have := C.sg p hp
    exact ⟨k _ _ (h4 p hp).symm this.1, this.2⟩
  · have := C.ow p hp
    obtain ⟨q, hq, rfl⟩ := List.mem_map.mp hp
    exact ⟨k _ _ (h3 q hq).symm this.1, this.2⟩
  · have zk := C.zk b ob hz
    exact ⟨k _ _ (fun q => h5 ob (q ▸ hz)) zk.1, zk.2⟩
/-- its block is told as any thing that turns -/
theorem Core.kpSig {σ : Led} {k0 : Kp} {Z : Kn} {own : Own} {m lm : Str → Option Value} (C : Core c (some k0) σ Z own m lm s) : ∃ oC, s.heap.get? k0.C = some oC ∧ (∀ h : Heap, h.get? k0.C = some oC → h.Ns k0.C lm) ∧ Core c .none ((k0.C, oC) :: σ) Z own m lm s := by
  obtain ⟨h1, h2, h3, h4, h5, h6, h7⟩ := C.kp k0 rfl
  obtain ⟨oC, es, ep, hC, r⟩ := h1
  obtain ⟨d1, d2, d3⟩ := List.pairwise_append.mp C.dj
  refine ⟨oC, hC, fun h e => ⟨oC, es, ep, e, r⟩, C.ok, C.sh, C.fr, fun p hp => ?_, C.ow, ?_, fun b ob hz => ?_, C.z0, fun kk e => by cases e⟩
  · rcases List.mem_cons.mp hp with rfl | hp
    · exact ⟨hC, h2, h6⟩
    · exact C.sg p hp
  · refine List.pairwise_append.mpr ⟨d1, List.pairwise_cons.mpr ⟨fun p hp => h4 p hp, d2⟩, fun p hp q hq => ?_⟩
    rcases List.mem_cons.mp hq with rfl | hq
    · obtain ⟨r, hr, rfl⟩ := List.mem_map.mp hp
      exact (h3 r hr).symm
    · exact d3 p hp q hq
  · have zk := C.zk b ob hz
    refine ⟨zk.1, zk.2.1, zk.2.2.1, fun p hp => ?_, zk.2.2.2.2⟩
    rcases List.mem_cons.mp hp with rfl | hp
    · exact fun q => h5 ob (show Z k0.C ob from (show b = k0.C from q) ▸ hz)
    · exact zk.2.2.2.1 p hp
/-- a name of the block's is bound -/
theorem Core.storeK {σ : Led} {k0 : Kp} {Z : Kn} {own : Own} {m lm : Str → Option Value} (C : Core c (some k0) σ Z own m lm s) {x : Str} {v : Value} {h' : Heap} {tk : Nat} (hn : h'.Ns k0.C (fun y => if y = x then some v else lm y)) (hs : Heap.SameBut k0.C s.heap h') :
    Core c (some k0) σ Z own m (fun y => if y = x then some v else lm y) { s with heap := h', toks := tk } := by
  obtain ⟨h1, h2, h3, h4, h5, h6, h7⟩ := C.kp k0 rfl
  have D0 := C.dropK hs lm
  refine ⟨D0.ok, by have := D0.sh; have e := C.sh; rw [e], D0.fr, D0.sg, D0.ow, D0.dj, D0.zk, D0.z0, fun kk e => ?_⟩
  cases e
  exact ⟨hn, h2, h3, h4, h5, h6, h7⟩

theorem kpk {k0 : Kp} : (envAt c S (some k0)).kindOf = fun x => (relabel k0.scope (envX c.cn S c.L c.a c.ccd c.cl)).names.lookup x := rfl
/-- a name of the comprehension's own -/
theorem Ev.nameL {k0 : Kp} {x : Str} {d : D} {pos : Pos} (hm : lv.lookup x = some d) (hk : ∀ L a ccd cl cn, (relabel k0.scope (envX cn S L a ccd cl)).names.lookup x = some .local := by intros; rfl) (hd : (x == ("__debug__" : Str)) = false := by decide) :
    Ev c S (some k0) σ ρ lv (.Name x pos) σ d := fun T s Q F h => by
  obtain ⟨σo, Z, hσ, own, m, lm, F⟩ := F
  obtain ⟨v, hv, hi⟩ := F.lov _ _ hm
  obtain ⟨hns, h2, h3, h4, h5, h6, h7⟩ := F.core.kp k0 rfl
  refine wpAny_Name (wpAny_loadName_local (env := envAt c S (some k0)) h7 (hk _ _ _ _ _) hns hv (h _ _ ⟨σo, Z, hσ, own, m, lm, F.core, F.fn, F.var, F.lov, fun p hp => ?_⟩)) hd
  rcases List.mem_cons.mp hp with rfl | hp
  · exact hi
  · exact F.tmp p hp
/-- a name of the def's, in a comprehension -/
theorem Ev.nameK {k0 : Kp} {x : Str} {d : D} {pos : Pos} (hm : ρ.lookup x = some (.val d)) (hcl : k0.cl.lookup x = c.cl.lookup x) (hS : S.names.lookup x = some .cell := by rfl) (hk : ∀ L a ccd cl cn, (relabel k0.scope (envX cn S L a ccd cl)).names.lookup x = some .cell := by intros; rfl) (hd : (x == ("__debug__" : Str)) = false := by decide) :
    Ev c S (some k0) σ ρ lv (.Name x pos) σ d := fun T s Q F h => by
  obtain ⟨σo, Z, hσ, own, m, lm, F⟩ := F
  obtain ⟨hns, h2, h3, h4, h5, h6, h7⟩ := F.core.kp k0 rfl
  cases F.var _ _ hm with
  | loc hk' hv hb => rw [hS] at hk'; cases hk'
  | free hk' _ _ _ _ => rw [hS] at hk'; cases hk'
  | cell _ hc hm' hdat hi =>
    refine wpAny_Name (wpAny_loadName_cell (env := envAt c S (some k0)) h7 (hk _ _ _ _ _) (hcl.trans hc) ⟨_, (F.core.ow _ (List.mem_map_of_mem hm')).1, hdat⟩ (h _ _ ⟨σo, Z, hσ, own, m, lm, F.core, F.fn, F.var, F.lov, fun p hp => ?_⟩)) hd
    rcases List.mem_cons.mp hp with rfl | hp
    · exact hi
    · exact F.tmp p hp

/-- what a comprehension's target makes of an item -/
noncomputable def TgK (S : Scope) (scope : Scope) (target : Expr) (d : D) (lv lv' : List (Str × D)) : Prop :=
  ∀ (c : Cx) (cl : List (Str × Addr)) (C : Addr) (σ : Sg) (ρ : Rho) (T : List (Value × D)) (s : Shared) (v : Value) (Q : Unit → Shared → Prop), Fs c S (some ⟨scope, cl, C⟩) σ ρ lv ((v, d) :: T) s → (∀ s', Fs c S (some ⟨scope, cl, C⟩) σ ρ lv' T s' → Q () s') →
    wpAny (model PG c.w) c.A (assign target (envAt c S (some ⟨scope, cl, C⟩)) v) Q NoE s
theorem storeK_val {k0 : Kp} {x : Str} {d : D} {v : Value} {Q : Unit → Shared → Prop} (F : Fs c S (some k0) σ ρ lv ((v, d) :: T) s) (hk : k0.scope.names.lookup x = some .local)
    (h : ∀ s', Fs c S (some k0) σ ρ ((x, d) :: lv) T s' → Q () s') : wpAny (model PG c.w) c.A (storeName (envAt c S (some k0)) x v) Q NoE s := by
  obtain ⟨σo, Z, hσ, own, m, lm, F⟩ := F
  obtain ⟨hns, h2, h3, h4, h5, h6, h7⟩ := F.core.kp k0 rfl
  have hl : (envAt c S (some k0)).kindOf x = some .local := lookup_relabel_local hk
  refine wpAny_storeName_local hl hns (fun h' hn hs => h _ ⟨σo, Z, hσ, own, m, _, F.core.storeK hn hs, F.fn, F.var, fun y dy e => ?_, fun p hp => F.tmp p (.tail _ hp)⟩) ?_
  · rw [List.lookup_cons] at e
    cases q : y == x with
    | true =>
      rw [q] at e; cases e
      have := eq_of_beq q; subst this
      exact ⟨v, if_pos rfl, F.tmp _ (.head _)⟩
    | false =>
      rw [q] at e
      obtain ⟨u, hu, hi⟩ := F.lov y dy e
      exact ⟨u, (if_neg fun q' => by rw [q'] at q; simp at q).trans hu, hi⟩
  · show (k0.scope.kind == .class || (k0.scope.kind == .module && _)) = false
    rw [h7]; rfl
theorem tgk_name {scope : Scope} {x : Str} {p : Pos} {d : D} (hk : scope.names.lookup x = some .local := by rfl) : TgK S scope (.Name x p) d lv ((x, d) :: lv) := fun c cl C σ ρ T s v Q F h =>
  wpAny_assign_Name (storeK_val F hk h)
theorem tgk_two {scope : Scope} {x y : Str} {p q tp : Pos} {k : Nat} {d1 d2 : D} (hx : scope.names.lookup x = some .local := by rfl) (hy : scope.names.lookup y = some .local := by rfl) :
    TgK S scope (.Tuple [.Name x p, .Name y q] k tp) (.tup [d1, d2]) lv ((y, d2) :: (x, d1) :: lv) := fun c cl C σ ρ T s v Q F h => by
  obtain ⟨a, vs, rfl, hl, ht, F2⟩ := F.openTup (.head _)
  obtain ⟨v1, v2, rfl⟩ := len2 hl
  refine wpAny_bind (wpAny_standAt (unpack_tuple (items := #[v1, v2]) (handled F) ht rfl rfl fun h' hk => ?_))
  have F3 := F2.grow (h' := h') s.toks fun b o e => hk b o (Nat.ne_of_lt (Heap.lt_size e)) e
  refine assignInOrder_cons (wpAny_assign_Name (storeK_val (T := (v2, d2) :: T) (F3.temps (T' := (v1, d1) :: (v2, d2) :: T) ?_) hx fun s4 F4 => ?_))
  · intro p hp
    rcases List.mem_cons.mp hp with rfl | hp
    · exact .head _
    · rcases List.mem_cons.mp hp with rfl | hp
      · exact .tail _ (.head _)
      · exact List.mem_append_right _ (.tail _ hp)
  · exact assignInOrder_cons (wpAny_assign_Name (storeK_val (T := T) F4 hy fun s5 F5 => assignInOrder_nil (h _ F5)))

/-- a comprehension's conditions -/
noncomputable def Ts (c : Cx) (S : Scope) (κ : Option Kp) (σ : Sg) (ρ : Rho) (lv : List (Str × D)) (ifs : List Expr) (σ' : Sg) (b : Bool) : Prop :=
  ∀ T s Q, Fs c S κ σ ρ lv T s → (∀ s', Fs c S κ σ' ρ lv T s' → Q b s') →
    wpAny (model PG c.w) c.A (forIn ifs true fun c' r => if r = true then do let ok ← isTrue c' (envAt c S κ) (eval c' (envAt c S κ)); pure (ForInStep.yield ok) else pure (ForInStep.yield r)) Q NoE s
theorem Ts.nil : Ts c S κ σ ρ lv [] σ true := fun T s Q F h => wpAny_tests_nil (h s F)
theorem Ts.one {e : Expr} {b : Bool} (h1 : Tv c S κ σ ρ lv e σ1 b) : Ts c S κ σ ρ lv [e] σ1 b := fun T s Q F h => wpAny_tests_one (h1 T s _ F h)

section
variable {prog : Program} {w : World} {A : Around} {R : Result → Shared → Prop}
theorem comp_loop {elt target iter : Expr} {ifs : List Expr} {scope : Scope} {pos : Pos} {it acc : Value} {env : Env} (I : Nat → Shared → Prop)
    (turn : ∀ n s, I n s → wpAny (model prog w) A (pyNext it) (fun r s1 => match r with
      | none => R (.ok .next) s1
      | some v => wpAny (model prog w) A (letOwnedTupleGo target it v) (fun _ s2 => wpAny (model prog w) A (assign target env v) (fun _ s3 =>
          wpAny (model prog w) A (forIn ifs true fun c r => if r = true then do let ok ← isTrue c env (eval c env); pure (ForInStep.yield ok) else pure (ForInStep.yield r)) (fun ok s4 =>
            if ok = true then wpAny (model prog w) A (eval elt env) (fun x s5 => wpAny (model prog w) A (call (.builtin "list.append") [acc, x]) (fun _ s6 => ∃ m, m < n ∧ I m s6) NoE s5) NoE s4
            else ∃ m, m < n ∧ I m s4) NoE s3) NoE s2) NoE s1) NoE s)
    (n : Nat) (h : I n s) : codeAny (model prog w) A (.compLoop (.ListComp elt [⟨target, iter, ifs, 0⟩] scope pos) 0 it acc env) R s := by
  refine codeAny_loop rfl I (fun n s hI => ?_) n h
  show wpAny _ A ((compTurn (.ListComp elt [⟨target, iter, ifs, 0⟩] scope pos) 0 it acc env).onRaise (fun x => do noteFrame x env; theTreesLotGoes x)) _ _ s
  refine wpAny_noted ?_
  rw [compTurn_list]
  have no : ∀ {E : Value → Shared → Prop} (x : Value) (s : Shared), NoE x s → E x s := fun _ _ e => e.elim
  refine wpAny_bind (wpAny_standAt (wpAny_bind (wpAny_mono (turn n s hI) (fun r s1 h1 => ?_) no)))
  cases r with
  | none => exact wpAny_pure h1
  | some v =>
    refine wpAny_bind (wpAny_mono h1 (fun _ s2 h2 => wpAny_bind (wpAny_mono h2 (fun _ s3 h3 => wpAny_bind (wpAny_mono h3 (fun ok s4 h4 => ?_) no)) no)) no)
    cases ok with
    | false => exact wpAny_pure ⟨rfl, h4⟩
    | true => exact wpAny_bind (wpAny_bind (wpAny_mono h4 (fun x s5 h5 => wpAny_bind (wpAny_mono h5 (fun _ s6 h6 => wpAny_pure (wpAny_pure ⟨rfl, h6⟩)) no)) no))
end

theorem closure_ok {env : Env} : ∀ (names : List (Str × NameKind)) (cs : List (Str × Addr)), (∀ x ∈ names, x.2 = .free → ∃ a, env.cells.lookup x.1 = some a) →
    ∃ cl, (forIn names cs fun (p : Str × NameKind) (r : List (Str × Addr)) => (if p.2 == .free then (do let a ← cellOf env p.1; pure (ForInStep.yield ((p.1, a) :: r))) else pure (ForInStep.yield r) : Sem (ForInStep (List (Str × Addr))))) = pure cl ∧
      (∀ x, (cs.lookup x = none ∨ cs.lookup x = env.cells.lookup x) → (cl.lookup x = none ∨ cl.lookup x = env.cells.lookup x)) ∧ (∀ x, cs.lookup x = env.cells.lookup x → (∃ a, env.cells.lookup x = some a) → cl.lookup x = env.cells.lookup x) ∧ ∀ x ∈ names, x.2 = .free → cl.lookup x.1 = env.cells.lookup x.1
  | [], cs, _ => ⟨cs, rfl, fun _ h => h, fun _ h _ => h, fun _ h => nomatch h⟩
  | (n, kd) :: r, cs, h => by
    have hr := fun cs => closure_ok r cs fun x hx => h x (.tail _ hx)
    cases hk : (kd == NameKind.free) with
    | false =>
      obtain ⟨cl, e, h1, h2, h3⟩ := hr cs
      refine ⟨cl, ?_, h1, h2, fun x hx hf => ?_⟩
      · rw [List.forIn_cons, ← e]
        simp only [hk, Bool.false_eq_true, if_false]
        rfl
      · rcases List.mem_cons.mp hx with rfl | hx
        · change kd = .free at hf; rw [hf] at hk; cases hk
        · exact h3 x hx hf
    | true =>
      have hf : kd = .free := by simpa using hk
      obtain ⟨a, ha⟩ := h (n, kd) (.head _) hf
      obtain ⟨cl, e, h1, h2, h3⟩ := hr ((n, a) :: cs)
      have look : ∀ x, ((n, a) :: cs).lookup x = if x == n then some a else cs.lookup x := fun x => by rw [List.lookup_cons]; cases x == n <;> rfl
      refine ⟨cl, ?_, fun x hx => h1 x ?_, fun x hx hs => h2 x ?_ hs, fun x hx hf' => ?_⟩
      · rw [List.forIn_cons, ← e]
        simp only [hk, if_true]
        have : cellOf env n = pure a := by unfold cellOf; rw [ha]
        rw [this]; rfl
      · rw [look]
        cases q : x == n with
        | true => right; have := eq_of_beq q; subst this; simp [ha]
        | false => exact hx
      · rw [look]
        cases q : x == n with
        | true => have := eq_of_beq q; subst this; simp [ha]
        | false => exact hx
      · rcases List.mem_cons.mp hx with rfl | hx
        · refine h2 n ?_ ⟨a, ha⟩
          rw [look]; simp [ha]
        · exact h3 x hx hf'
theorem closureFor_cells {env : Env} {scope : Scope} (h : ∀ x ∈ scope.names, x.2 = .free → ∃ a, env.cells.lookup x.1 = some a) : ∃ cl, closureFor scope env = pure cl ∧ ∀ x ∈ scope.names, x.2 = .free → cl.lookup x.1 = env.cells.lookup x.1 := by
  obtain ⟨cl, e, _, _, h3⟩ := closure_ok (env := env) scope.names [] h
  refine ⟨cl, ?_, h3⟩
  unfold closureFor
  rw [← bind_pure (pure cl : Sem _), ← e]
end
end Mine
namespace Mine
section
variable {c : Cx} {S : Scope} {κ : Option Kp} {σ σ1 σ2 σ3 : Sg} {ρ ρ1 ρ2 : Rho} {lv : List (Str × D)} {T : List (Value × D)} {s : Shared}

/-- what one turn of a comprehension does -/
noncomputable def CompT (c : Cx) (S : Scope) (scope : Scope) (ρ : Rho) (target elt : Expr) (ifs : List Expr) (σf : Nat → Sg) (of : Nat → List D) (i : Nat) (d : D) : Prop :=
  ∃ lv, TgK S scope target d [] lv ∧ ∀ (Zs : Kn) (E : Sg) (cl : List (Str × Addr)) (C : Addr), (∀ x ∈ scope.names, x.2 = .free → cl.lookup x.1 = c.cl.lookup x.1) →
    ∃ ok σ1, Ts (c.at_ Zs) S (some ⟨scope, cl, C⟩) (E ++ σf i) ρ lv ifs σ1 ok ∧
      (ok = true → ∃ d', Ev (c.at_ Zs) S (some ⟨scope, cl, C⟩) σ1 ρ lv elt (E ++ σf (i + 1)) d' ∧ of (i + 1) = of i ++ [d']) ∧ (ok = false → σ1 = E ++ σf (i + 1) ∧ of (i + 1) = of i)

theorem zipT_snoc {vs : List Value} {ds : List D} {v : Value} {d : D} (hl : vs.length = ds.length) : ∀ p ∈ zipT (vs ++ [v]) (ds ++ [d]) T, p = (v, d) ∨ p ∈ zipT vs ds T := fun p hp => by
  unfold zipT at hp ⊢
  rw [List.zip_append hl] at hp
  rcases List.mem_append.mp hp with hp | hp
  · rcases List.mem_append.mp hp with hp | hp
    · exact .inr (List.mem_append_left _ hp)
    · exact .inl (List.mem_singleton.mp hp)
  · exact .inr (List.mem_append_right _ hp)

theorem comp_rule {elt target iter : Expr} {ifs : List Expr} {scope : Scope} {pos ip : Pos} {use : Option (Value → Sem Unit)} {ds : List D} {Q : Value → Shared → Prop} (σf : Nat → Sg) (of : Nat → List D) (F : Fs c S .none σ ρ [] T s)
    (h1 : EvIt c S .none σ ρ [] target iter (σf 0) ds) (h0 : of 0 = []) (hz : ds.length ≤ 1000)
    (hclos : ∀ x ∈ scope.names, x.2 = .free → ∃ b, ρ.lookup x.1 = some b ∧ S.names.lookup x.1 = some .cell) (hcell : ∀ x ∈ scope.names, x.2 ≠ .cell)
    (hkind : scope.kind = .function) (hnames : ∀ x ∈ scope.names, x.2 = .local → scope.names.lookup x.1 = some .local)
    (turn : ∀ i d, ds[i]? = some d → CompT c S scope ρ target elt ifs σf of i d)
    (fin : ∀ acc k0 s', k0.scope = scope → Fs c S (some k0) (σf ds.length) ρ [] ((acc, .lst (of ds.length)) :: T) s' → compPost (model PG c.w) c.A NoE use Q acc k0.C (.ok .next) s')
    (hs : ∀ x, foldedSetIterable iter (envAt c S .none) x = pure x) :
    wpAny (model PG c.w) c.A (comprehension (.ListComp elt [⟨target, iter, ifs, 0⟩] scope pos) scope (envAt c S .none) ip (newList []) false (eval iter (envAt c S .none)) use) Q NoE s := by
  obtain ⟨cl, hcl, hcl2⟩ : ∃ cl, closureFor scope (envAt c S .none) = pure cl ∧ ∀ x ∈ scope.names, x.2 = .free → cl.lookup x.1 = c.cl.lookup x.1 := by
    refine closureFor_cells (env := envAt c S .none) fun x hx hf => ?_
    obtain ⟨b, hb, hS⟩ := hclos x hx hf
    obtain ⟨σo, Z, hσ, own, m, lm, F⟩ := F
    cases F.var _ _ hb with
    | loc hk' hv hb => rw [hS] at hk'; cases hk'
    | free hk' _ _ _ _ => rw [hS] at hk'; cases hk'
    | cell _ hc hm' hdat hi => exact ⟨_, hc⟩
    | unset _ hc hm' hdat => exact ⟨_, hc⟩
    | frozen _ hc _ _ _ => exact ⟨_, hc⟩
  refine wpAny_comprehension_free (g := ⟨target, iter, ifs, 0⟩) rfl hs hcl hkind hnames (h1 T s _ F fun I fp wr St s2 σ2 Zs own m lm hσ2 F2 W st off hfp => ?_)
  refine wpAny_newObj_type (wpAny_newFunctionEnv hcell (by intro y hy; simp at hy) (fun h₁ hns₁ hsb₁ => ?_) hkind)
  dsimp only at hns₁ hsb₁ ⊢
  generalize hH2 : s2.heap.push { cls := .type "list", dict := none, data := .seq ([] : List Value).toArray } = H2 at hns₁ hsb₁ ⊢
  have hC : H2.objs.size = s2.heap.objs.size + 1 := by rw [← hH2, Heap.size_push]
  have hDC : s2.heap.objs.size ≠ H2.objs.size := by rw [hC]; exact Nat.ne_of_lt (Nat.lt_succ_self _)
  have below : ∀ b, b < s2.heap.objs.size → b ≠ H2.objs.size := fun b hb => by rw [hC]; exact Nat.ne_of_lt (Nat.lt_succ_of_lt hb)
  have old : ∀ b o, s2.heap.get? b = some o → h₁.get? b = some o := fun b o e => hsb₁.extBut b o (below b (Heap.lt_size e)) (Heap.get?_push_of_some _ (hH2 ▸ Heap.get?_push_of_some _ e))
  have hacc : h₁.get? s2.heap.objs.size = some (lstO [] 0) := hsb₁.extBut _ _ hDC (Heap.get?_push_of_some _ (hH2 ▸ Heap.get?_push_size _ rfl))
  have nD : s2.heap.get? s2.heap.objs.size = none := size_none _
  have nC : s2.heap.get? H2.objs.size = none := by
    cases e : s2.heap.get? H2.objs.size with
    | none => rfl
    | some o' => exact absurd rfl (below _ (Heap.lt_size e))
  generalize hD0 : s2.heap.objs.size = D0 at *
  generalize hC0 : H2.objs.size = C0 at *
  let k0 : Kp := ⟨scope, cl, C0⟩
  have C2 := F2.core
  have C3 := C2.enterComp (o := lstO [] 0) k0 (h' := h₁) (s2.toks + ([] : List (Str × Value)).length) nD nC hDC hacc hns₁ hkind old
  obtain ⟨E0, hE0, hE0'⟩ := live_led (W.live 0 _ st)
  have wrlt : ∀ b ∈ wr, ∃ o, s2.heap.get? b = some o := W.live 0 _ st
  have ne : ∀ {b b' : Addr} {ob : Obj}, s2.heap.get? b = none → s2.heap.get? b' = some ob → b' ≠ b := fun e e' q => by rw [← q, e'] at e; cases e
  have off3 : Off c (some k0) ((D0, lstO [] 0) :: σ2) Zs own wr := ⟨off.1, fun b hb => by
    obtain ⟨o1, o2, o3, o4, o5, o6⟩ := off.2 b hb
    obtain ⟨ob, hob⟩ := wrlt b hb
    refine ⟨o1, o2, o3, fun p hp => ?_, o5, fun k e => ?_⟩
    · rcases List.mem_cons.mp hp with rfl | hp
      · exact ne nD hob
      · exact o4 p hp
    · cases e; exact ne nC hob⟩
  have st3 : St 0 h₁ := W.frame _ _ _ st fun b hb o e => old b o e
  -- the loop's state
  let J : Nat → Shared → Prop := fun n s' => ∃ i E vs k lv, n = ds.length - i ∧ i ≤ ds.length ∧ E.map (·.1) = wr ∧ St i s'.heap ∧ vs.length = (of i).length ∧ (of i).length ≤ i ∧
    Fs (c.at_ Zs) S (some k0) ((D0, same_ (lstO vs k)) :: (exact_ E ++ σf i)) ρ lv (zipT vs (of i) T) s'
  have into : Core (c.at_ Zs) (some k0) ((D0, lstO [] 0) :: (E0 ++ σ2)) Zs own m (fun x => ([] : List (Str × Value)).reverse.lookup x) { s2 with heap := h₁, toks := s2.toks + ([] : List (Str × Value)).length } := by
    have C4 := C3.into (E := E0) (by rw [hE0]; exact off3) (fun p hp => old _ _ (hE0' p hp))
    refine ⟨C4.ok, C4.sh, C4.fr, fun p hp => ?_, C4.ow, ?_, fun b ob hz' => ?_, C4.z0, fun kk e => ?_⟩
    · rcases List.mem_cons.mp hp with rfl | hp
      · exact C4.sg _ (List.mem_append_right _ (.head _))
      · rcases List.mem_append.mp hp with hp | hp
        · exact C4.sg _ (List.mem_append_left _ hp)
        · exact C4.sg _ (List.mem_append_right _ (.tail _ hp))
    · obtain ⟨d1, d2, d3⟩ := List.pairwise_append.mp C4.dj
      obtain ⟨d4, d5, d6⟩ := List.pairwise_append.mp d2
      obtain ⟨d7, d8⟩ := List.pairwise_cons.mp d5
      refine List.pairwise_append.mpr ⟨d1, List.pairwise_cons.mpr ⟨fun p hp => ?_, List.pairwise_append.mpr ⟨d4, d8, fun p hp q hq => d6 p hp q (.tail _ hq)⟩⟩, fun p hp q hq => d3 p hp q ?_⟩
      · rcases List.mem_append.mp hp with hp | hp
        · exact (d6 p hp _ (.head _)).symm
        · exact d7 p hp
      · rcases List.mem_cons.mp hq with rfl | hq
        · exact List.mem_append_right _ (.head _)
        · rcases List.mem_append.mp hq with hq | hq
          · exact List.mem_append_left _ hq
          · exact List.mem_append_right _ (.tail _ hq)
    · have zk := C4.zk b ob hz'
      refine ⟨zk.1, zk.2.1, zk.2.2.1, fun p hp => zk.2.2.2.1 p ?_, zk.2.2.2.2⟩
      rcases List.mem_cons.mp hp with rfl | hp
      · exact List.mem_append_right _ (.head _)
      · rcases List.mem_append.mp hp with hp | hp
        · exact List.mem_append_left _ hp
        · exact List.mem_append_right _ (.tail _ hp)
    · obtain ⟨h1, h2, h3, h4, h5, h6⟩ := C4.kp kk e
      refine ⟨h1, h2, h3, fun p hp => h4 p ?_, h5, h6⟩
      rcases List.mem_cons.mp hp with rfl | hp
      · exact List.mem_append_right _ (.head _)
      · rcases List.mem_append.mp hp with hp | hp
        · exact List.mem_append_left _ hp
        · exact List.mem_append_right _ (.tail _ hp)
  have J0 : J ds.length { s2 with heap := h₁, toks := s2.toks + ([] : List (Str × Value)).length } := by
    refine ⟨0, E0, [], 0, [], by omega, by omega, hE0, st3, by rw [h0]; rfl, by rw [h0]; exact Nat.le_refl _, (D0, lstO [] 0) :: (E0 ++ σ2), Zs, .cons rfl (Rl.app hσ2 (Rl.exact_ E0)), own, m, _, into, F2.fn, fun x b e => ?_, fun x d e => (by cases e), fun p hp => ?_⟩
    · cases F2.var x b e with
      | loc hk hv h => exact .loc hk hv h
      | cell hk hc hm hd h => exact .cell hk hc hm hd h
      | free hk hc hz hd h => exact .free hk hc hz hd h
      | frozen hk hc hz hd h => exact .frozen hk hc hz hd h
      | unset hk hc hm hd => exact .unset hk hc hm hd
    · rw [h0] at hp; exact F2.tmp p hp
  have same : ∀ {E : Led} {P P' : SO} {σ' σ'' : Sg} {lv' lv'' : List (Str × D)} {T' T'' : List (Value × D)} {s4 s5 : Shared}, E.map (·.1) = wr → Fs (c.at_ Zs) S (some k0) ((D0, P) :: (exact_ E ++ σ')) ρ lv' T' s4 → Fs (c.at_ Zs) S (some k0) ((D0, P') :: (exact_ E ++ σ'')) ρ lv'' T'' s5 →
      ∀ b ∈ fp, ∀ o, s4.heap.get? b = some o → s5.heap.get? b = some o := fun {E P P' σ' σ'' lv' lv'' T' T'' s4 s5} hE' F4 F5 b hb o e => by
    obtain ⟨l5, Z5, hl5, own5, m5, lm5, F5⟩ := F5
    cases hl5 with
    | cons _ hl5 =>
    obtain ⟨Eo5, σo5, rfl, hr5, _⟩ := hl5.split
    obtain rfl := hr5.exact_eq
    obtain ⟨l4, Z4, hl4, own4, m4, lm4, F4⟩ := F4
    cases hl4 with
    | cons _ hl4 =>
    obtain ⟨Eo4, σo4, rfl, hr4, _⟩ := hl4.split
    obtain rfl := hr4.exact_eq
    rcases hfp b hb with hw' | ⟨o', hz⟩
    · obtain ⟨p, hp, rfl⟩ := List.mem_map.mp (hE' ▸ hw')
      have q4 := (F4.core.sg p (.tail _ (List.mem_append_left _ hp))).1
      have q5 := (F5.core.sg p (.tail _ (List.mem_append_left _ hp))).1
      rw [q4] at e; cases e; exact q5
    · have q4 := (F4.core.zk _ _ (F4.core.z0 _ _ hz)).1
      have q5 := (F5.core.zk _ _ (F5.core.z0 _ _ hz)).1
      rw [q4] at e; cases e; exact q5
  have loop : ∀ s3, J ds.length s3 → codeAny (model PG c.w) c.A (.compLoop (.ListComp elt [⟨target, iter, ifs, 0⟩] scope pos) 0 (.ref I) (.ref D0) (envAt c S (some k0))) (compPost (model PG c.w) c.A NoE use Q (.ref D0) C0) s3 := fun s3 hJ => by
    refine comp_loop J ?_ ds.length hJ
    rintro n s' ⟨i, E, vs, k, lv, rfl, hi, hE, st', hl, hle, F'⟩
    by_cases hlt : i < ds.length
    · have hd : ds[i]? = some ds[i] := List.getElem?_eq_getElem hlt
      obtain ⟨lv', tg, hb⟩ := turn i _ hd
      refine wpAny_mono (W.next i _ s' (fun v s4 => ∃ E', E'.map (·.1) = wr ∧ St (i + 1) s4.heap ∧ Fs (c.at_ Zs) S (some k0) ((D0, same_ (lstO vs k)) :: (exact_ E' ++ σf i)) ρ [] ((v, ds[i]) :: zipT vs (of i) T) s4) hd st' fun v h' tk Wn st2 kk hw hI => ?_) (fun r s3 hr => ?_) fun _ _ e => e.elim
      · obtain ⟨E', hE', hE2⟩ := live_led (W.live (i + 1) _ st2)
        refine ⟨E', hE', st2, ?_⟩
        obtain ⟨l3, Z3, hl3, own3, m3, lm3, F3⟩ := F'
        cases hl3 with
        | @cons _ _ oD _ _ hoD hl3 =>
        obtain ⟨Eo, σo, rfl, hr1, hr2⟩ := hl3.split
        obtain rfl := hr1.exact_eq
        have dj := F3.core.dj
        have nDE : ∀ p ∈ Eo, D0 ≠ p.1 := fun p hp => (List.pairwise_cons.mp (List.pairwise_append.mp dj).2.1).1 p (List.mem_append_left _ hp)
        have nDwr : D0 ∉ wr := fun q => by
          obtain ⟨p, hp, e⟩ := List.mem_map.mp (hE ▸ q)
          exact nDE p hp e.symm
        have C3 := F3.core.turn (E := (D0, oD) :: Eo) (E' := (D0, oD) :: E') (h' := h') tk (by simp only [List.map_cons]; rw [hE', hE]) (fun p hp => by
          rcases List.mem_cons.mp hp with rfl | hp
          · exact kk _ _ nDwr (F3.core.sg _ (.head _)).1
          · exact hE2 p hp) (fun b o hb e => kk b o (fun q => hb (.tail _ (hE ▸ q))) e) hw
        refine ⟨_, fun a o => Z3 a o ∨ Wn a o, .cons hoD (Rl.app (hr2.mono fun _ _ h => .inl h) (Rl.exact_ E')), own3, m3, lm3, C3, F3.fn, fun x b e => (F3.var x b e).mono fun _ _ h => .inl h, fun x d e => (by cases e), fun p hp => ?_⟩
        rcases List.mem_cons.mp hp with rfl | hp
        · exact hI Z3 fun a o hz => F3.core.z0 a o hz
        · exact (F3.tmp p hp).mono fun _ _ h => .inl h
      · obtain ⟨v, rfl, hgo⟩ := hr
        refine wpAny_mono hgo (fun _ s4 h4 => ?_) fun _ _ e => e.elim
        obtain ⟨E', hE', st4, F4⟩ := h4
        refine tg (c.at_ Zs) cl C0 _ ρ _ s4 v _ F4 fun s5 F5 => ?_
        have st5 := W.frame _ _ _ st4 (same hE' F4 F5)
        obtain ⟨ok, σ1, ht, hok, hno⟩ := hb Zs ((D0, same_ (lstO vs k)) :: exact_ E') cl C0 hcl2
        refine ht _ s5 _ F5 fun s6 F6 => ?_
        cases ok with
        | false =>
          simp only [Bool.false_eq_true, if_false]
          obtain ⟨rfl, eo⟩ := hno rfl
          exact ⟨ds.length - (i + 1), by omega, i + 1, E', vs, k, lv', rfl, hlt, hE', W.frame _ _ _ st5 (same hE' F5 F6), by rw [eo]; exact hl, by rw [eo]; omega, by rw [eo]; exact F6⟩
        | true =>
          simp only [if_true]
          obtain ⟨d', he, eo⟩ := hok rfl
          refine he _ s6 _ F6 fun u s7 F7 => ?_
          have st7 := W.frame _ _ _ st5 (same hE' F5 F7)
          have F7' := F7
          obtain ⟨l7, Z7, hl7, own7, m7, lm7, F7⟩ := F7
          cases hl7 with
          | cons hoD hl7 =>
          obtain rfl := hoD
          have hD7 := (F7.core.sg _ (.head _)).1
          refine wpAny_list_append_plain ⟨k, hD7⟩ (fun h8 hp8 hsb8 => ?_) (by rw [sizeLine_eq]; simp [hl]; omega)
          obtain ⟨k8, hg8⟩ := hp8
          have hg8' : h8.get? D0 = some (lstO (vs ++ [u]) k8) := by
            rw [hg8]; simp
          have C8 := F7.core.headSet s7.toks hg8' fun b ob hb e => (hsb8.2 b hb).trans e
          have F8 : Fs (c.at_ Zs) S (some k0) ((D0, same_ (lstO (vs ++ [u]) k8)) :: (exact_ E' ++ σf (i + 1))) ρ lv' (zipT (vs ++ [u]) (of i ++ [d']) T) { s7 with heap := h8 } := by
            refine ⟨_, Z7, .cons rfl hl7, own7, m7, lm7, C8, F7.fn, F7.var, F7.lov, fun p hp => ?_⟩
            rcases zipT_snoc hl p hp with rfl | hp
            · exact F7.tmp _ (.head _)
            · exact F7.tmp _ (.tail _ hp)
          refine ⟨ds.length - (i + 1), by omega, i + 1, E', vs ++ [u], k8, lv', rfl, hlt, hE', W.frame _ _ _ st7 (same hE' F7' F8), by rw [eo]; simp [hl], by rw [eo]; simp; omega, by rw [eo]; exact F8⟩
    · have : i = ds.length := by omega
      subst this
      refine wpAny_mono (W.done s' (fun s3 => compPost (model PG c.w) c.A NoE use Q (.ref D0) C0 (.ok .next) s3) st' fun h' tk kk => ?_) (fun r s3 hr => ?_) fun _ _ e => e.elim
      · refine fin (.ref D0) k0 _ rfl ?_
        obtain ⟨l3, Z3, hl3, own3, m3, lm3, F3⟩ := F'
        cases hl3 with
        | cons hoD hl3 =>
        obtain rfl := hoD
        obtain ⟨Eo, σo, rfl, hr1, hr2⟩ := hl3.split
        obtain rfl := hr1.exact_eq
        have C4 := F3.core.adopt
        have C5 := C4.out (Z1 := Zs) C2 (h' := h') tk (fun b o hb e => kk b o (fun q => hb (hE ▸ q)) e)
        have le : ∀ a o, Z3 a o → Z3 a o ∨ (a = D0 ∧ o = lstO vs k) := fun _ _ h => .inl h
        refine ⟨σo, _, hr2.mono le, own3, m3, lm3, C5, F3.fn, fun x b e => ?_, fun x d e => (by cases e), fun p hp => ?_⟩
        · cases (F3.var x b e).mono le with
          | loc hk hv h => exact .loc hk hv h
          | cell hk hc hm hd h => exact .cell hk hc hm hd h
          | free hk hc hz hd h => exact .free hk hc hz hd h
          | frozen hk hc hz hd h => exact .frozen hk hc hz hd h
          | unset hk hc hm hd => exact .unset hk hc hm hd
        · rcases List.mem_cons.mp hp with rfl | hp
          · exact .lst (.inr ⟨rfl, rfl⟩) rfl rfl ((IsL.of_zip hl fun p hp => F3.tmp p (List.mem_append_left _ hp)).mono le)
          · exact (F3.tmp p (List.mem_append_right _ hp)).mono le
      · obtain ⟨rfl, F3⟩ := hr
        exact F3
  exact codeAny_compStart_list (loop _ J0) (W.self 0 _ _ _ st3 (loop _ J0))

/-- a list comprehension as a value -/
theorem Ev.comp {elt target iter : Expr} {ifs : List Expr} {scope : Scope} {pos : Pos} {ds : List D} (σf : Nat → Sg) (of : Nat → List D) (h1 : EvIt c S .none σ ρ [] target iter (σf 0) ds) (h0 : of 0 = [])
    (turn : ∀ i d, ds[i]? = some d → CompT c S scope ρ target elt ifs σf of i d) (hz : ds.length ≤ 1000)
    (hclos : ∀ x ∈ scope.names, x.2 = .free → ∃ b, ρ.lookup x.1 = some b ∧ S.names.lookup x.1 = some .cell) (hcell : ∀ x ∈ scope.names, x.2 ≠ .cell := by decide)
    (hkind : scope.kind = .function := by rfl) (hnames : ∀ x ∈ scope.names, x.2 = .local → scope.names.lookup x.1 = some .local := by decide)
    (hs : ∀ env x, foldedSetIterable iter env x = pure x := by intros; rfl) : Ev c S .none σ ρ [] (.ListComp elt [⟨target, iter, ifs, 0⟩] scope pos) (σf ds.length) (.lst (of ds.length)) := fun T s Q F h => by
  rw [eval_ListComp]
  refine comp_rule (use := Option.none) σf of F h1 h0 hz hclos hcell hkind hnames turn (fun acc k0 s' hk F' => ?_) (hs _)
  obtain ⟨σo, Z, hσ, own, m, lm, F'⟩ := F'
  obtain ⟨hns, _⟩ := F'.core.kp k0 rfl
  exact ⟨lm, hns, fun h' hsb => h _ _ ⟨σo, Z, hσ, own, m, lm, F'.core.dropK hsb lm, F'.fn, F'.var, fun x d e => (by cases e), F'.tmp⟩⟩
end
end Mine
namespace Mine
section
variable {c : Cx} {S : Scope} {κ : Option Kp} {σ σ1 σ2 σ3 : Sg} {ρ ρ1 ρ2 : Rho} {lv : List (Str × D)} {T : List (Value × D)} {s : Shared} {H : List (Str × Addr × List D)}

/-- a name that lies in a cell is bound -/
theorem store_cell {x : Str} {d : D} {v : Value} {Q : Unit → Shared → Prop} (F : FsH c S σ ρ lv ((v, d) :: T) H s) (hk : S.names.lookup x = some .cell) (hx : ∃ b, ρ.lookup x = some b ∧ ∀ d, b ≠ .froz d)
    (h : ∀ s', FsH c S σ ((x, .val d) :: ρ) lv T H s' → Q () s') : wpAny (model PG c.w) c.A (storeName (envAt c S .none) x v) Q NoE s := by
  obtain ⟨σo, Z, hσ, own, m, lm, F, G⟩ := F
  obtain ⟨b, hb, hnf⟩ := hx
  obtain ⟨ca, o, v0, hc, hm, hd⟩ : ∃ ca o v0, c.cl.lookup x = some ca ∧ (x, ca, o) ∈ own ∧ o.data = .cell v0 := by
    cases F.var _ _ hb with
    | loc hk' hv hb => rw [hk] at hk'; cases hk'
    | free hk' _ _ _ _ => rw [hk] at hk'; cases hk'
    | cell _ hc hm hd hi => exact ⟨_, _, _, hc, hm, hd⟩
    | unset _ hc hm hd => exact ⟨_, _, _, hc, hm, hd⟩
    | frozen _ _ _ _ _ => exact absurd rfl (hnf _)
  have hw := F.core.ow _ (List.mem_map_of_mem hm)
  refine wpAny_storeName_cell (env := envAt c S .none) F.fn hk hc ⟨o, hw.1, hd⟩ fun h' hcell hsb => ?_
  obtain ⟨o', ho', hd'⟩ := hcell
  obtain ⟨pre, post, rfl⟩ := List.append_of_mem hm
  have C' := F.core.ownSet s.toks (h' := h') ⟨F.core.fr.ns.sameBut hsb hw.2.1.symm, fun b ob e => (hsb.2 b fun q => by rw [q, hw.2.2] at e; cases e).trans (F.core.fr.keep b ob e), F.core.fr.above⟩ (fun a oa h1 _ e => (hsb.2 a h1).trans e) ho'
  refine h _ ⟨σo, Z, hσ, _, m, lm, ⟨C', F.fn, fun y b hy => ?_, F.lov, fun p hp => F.tmp p (.tail _ hp)⟩, fun q hq => ?_⟩
  · rcases lookup_set hy with ⟨rfl, rfl⟩ | ⟨hne, hy⟩
    · exact .cell hk hc (List.mem_append_right _ (.head _)) hd' (F.tmp _ (.head _))
    · exact (F.var y b hy).ownSet hne
  · obtain ⟨ol, vs, n, h1, h2, h3⟩ := G q hq
    refine ⟨ol, vs, n, ?_, h2, h3⟩
    rcases List.mem_append.mp h1 with h1 | h1
    · exact List.mem_append_left _ h1
    · rcases List.mem_cons.mp h1 with e | h1
      · have e2 : ol = o := by injection e with _ e; injection e
        rw [← e2, h2] at hd; cases hd
      · exact List.mem_append_right _ (.tail _ h1)

/-- a store of a value to a name -/
noncomputable def Sto (S : Scope) (x : Str) (ρ : Rho) : Prop := S.names.lookup x = some .local ∨ (S.names.lookup x = some .cell ∧ ∃ b, ρ.lookup x = some b ∧ ∀ d, b ≠ .froz d)
theorem store_any {x : Str} {d : D} {v : Value} {Q : Unit → Shared → Prop} (F : FsH c S σ ρ lv ((v, d) :: T) H s) (hk : Sto S x ρ)
    (h : ∀ s', FsH c S σ ((x, .val d) :: ρ) lv T H s' → Q () s') : wpAny (model PG c.w) c.A (storeName (envAt c S .none) x v) Q NoE s := by
  rcases hk with hk | ⟨hk, hx⟩
  · exact store_val F hk h
  · exact store_cell F hk hx h
theorem Ex.assignC {x : Str} {e : Expr} {p' pos : Pos} {d : D} {rest : List Stmt} {P : Flow → Shared → Prop} {b : B} (h1 : Ev c S .none σ ρ [] e σ1 d) (h2 : Ex c S σ1 ((x, .val d) :: ρ) rest P)
    (hb : ρ.lookup x = some b) (hk : S.names.lookup x = some .cell := by rfl) (hnf : ∀ d, b ≠ .froz d := by intro _ h; cases h) (hs : ∀ env, swapsWith e (some (.Name x p')) pos.line env = pure false := by intro _; rfl) : Ex c S σ ρ (.Assign [.Name x p'] e pos :: rest) P :=
  Ex.step fun s F => wpAny_Assign_Name (h1 [] s _ F fun v s1 F1 => store_cell F1.toH hk ⟨b, hb, hnf⟩ fun s2 F2 => h2 s2 F2.toFs) (hs _)
theorem tg_cell {x : Str} {p : Pos} {d : D} {b : B} (hb : ρ.lookup x = some b) (hk : S.names.lookup x = some .cell := by rfl) (hnf : ∀ d, b ≠ .froz d := by intro _ h; cases h) : Tg S (.Name x p) d ρ ((x, .val d) :: ρ) := fun c σ T s v Q F h =>
  wpAny_assign_Name (store_cell F.toH hk ⟨b, hb, hnf⟩ fun s' F' => h s' F'.toFs)

/-- targets, one behind the other -/
noncomputable def Tgs (S : Scope) (ts : List Expr) (ds : List D) (ρ ρ' : Rho) : Prop := ts.length = ds.length ∧ ((∀ env, (assignEach ts env).length = ts.length) ∧ (∀ env, ∀ x ∈ assignEach ts env, x.1 = false)) ∧
  ∀ (c : Cx) (σ : Sg) (T : List (Value × D)) (s : Shared) (vs : List Value) (Q : Unit → Shared → Prop), vs.length = ds.length → Fs c S .none σ ρ [] (zipT vs ds T) s → (∀ s', Fs c S .none σ ρ' [] T s' → Q () s') →
    wpAny (model PG c.w) c.A (assignInOrder ((assignEach ts (envAt c S .none)).map (·.2)) vs) Q NoE s
theorem Tgs.nil : Tgs S [] [] ρ ρ := ⟨rfl, ⟨fun _ => rfl, fun _ _ h => nomatch h⟩, fun c σ T s vs Q hl F h => by
  obtain rfl := len0 hl
  exact assignInOrder_nil (h s F)⟩
theorem Tgs.cons {t : Expr} {ts : List Expr} {d : D} {ds : List D} (h1 : Tg S t d ρ ρ1) (h2 : Tgs S ts ds ρ1 ρ2) (he : ∀ env, assignEach (t :: ts) env = (false, assign t env) :: assignEach ts env := by intro _; rfl) : Tgs S (t :: ts) (d :: ds) ρ ρ2 :=
  ⟨by simp [h2.1], ⟨fun env => by rw [he]; simp [h2.2.1.1], fun env x hx => by
    rw [he] at hx
    rcases List.mem_cons.mp hx with rfl | hx
    · rfl
    · exact h2.2.1.2 env x hx⟩, fun c σ T s vs Q hl F h => by
    obtain ⟨v, us, rfl, hl'⟩ := lenS hl
    rw [he]
    exact assignInOrder_cons (h1 c σ (zipT us ds T) s v _ F fun s1 F1 => h2.2.2 c σ T s1 us Q hl' F1 h)⟩
theorem tg_tuple {ts : List Expr} {ds : List D} {k : Nat} {pos : Pos} (h1 : Tgs S ts ds ρ ρ1) : Tg S (.Tuple ts k pos) (.tup ds) ρ ρ1 := fun c σ T s v Q F h => by
  obtain ⟨a, vs, rfl, hl, ht, F2⟩ := F.openTup (.head _)
  refine assign_Tuple_tuple (items := vs.toArray) (handled F) ht (by rw [h1.2.1.1, h1.1]; simp [hl]) ?_ fun h' hk => ?_
  · rw [List.findIdx?_eq_none_iff]
    exact fun x hx => h1.2.1.2 _ x hx
  · have F3 := F2.grow (h' := h') s.toks fun b o e => hk b o (Nat.ne_of_lt (Heap.lt_size e)) e
    exact h1.2.2 c σ T _ vs Q hl (F3.temps fun p hp => by
      rcases List.mem_append.mp hp with hp | hp
      · exact List.mem_append_left _ hp
      · exact List.mem_append_right _ (.tail _ hp)) h
/-- x, y, .. = e -/
theorem Ex.unpack {ts : List Expr} {tp pos : Pos} {k : Nat} {e : Expr} {d : D} {rest : List Stmt} {P : Flow → Shared → Prop} (h1 : Ev c S .none σ ρ [] e σ1 d) (h2 : Tg S (.Tuple ts k tp) d ρ ρ1) (h3 : Ex c S σ1 ρ1 rest P)
    (hs : swapsWithSole [.Tuple ts k tp] e pos.line (envAt c S .none) = pure false := by rfl) (hw : swappedStores [.Tuple ts k tp] e (envAt c S .none) = pure none := by rfl) :
    Ex c S σ ρ (.Assign [.Tuple ts k tp] e pos :: rest) P := Ex.step fun s F =>
  Assign_Tuple (h1 [] s _ F fun v s1 F1 => h2 c σ1 [] s1 v _ F1 fun s2 F2 => h3 s2 F2) hs hw
/-- x, y = e1, e2 with any stores -/
theorem Ex.swap2 {x y : Str} {px py tp vp pos : Pos} {k k' : Nat} {e1 e2 : Expr} {d1 d2 : D} {rest : List Stmt} {P : Flow → Shared → Prop} (h1 : EvL c S .none σ ρ [] [e1, e2] σ1 [d1, d2]) (h2 : Ex c S σ1 ((x, .val d1) :: (y, .val d2) :: ρ) rest P)
    (hy : Sto S y ρ) (hx : Sto S x ((y, .val d2) :: ρ))
    (hs : swapsWithSole [.Tuple [.Name x px, .Name y py] k tp] (.Tuple [e1, e2] k' vp) pos.line (envAt c S .none) = pure false := by rfl) (hw : swappedStores [.Tuple [.Name x px, .Name y py] k tp] (.Tuple [e1, e2] k' vp) (envAt c S .none) = pure (some [x, y]) := by rfl) :
    Ex c S σ ρ (.Assign [.Tuple [.Name x px, .Name y py] k tp] (.Tuple [e1, e2] k' vp) pos :: rest) P := Ex.step fun s F =>
  Assign_Tuple_swapped (names := [x, y]) (Ev.tuple h1 (by rfl) [] s _ F fun v s1 F1 => by
    obtain ⟨a, vs, rfl, hl, ht, F2⟩ := F1.openTup (.head _)
    obtain ⟨v1, v2, rfl⟩ := len2 hl
    refine unpackItems_tuple (items := #[v1, v2]) (handled F) ht fun h' hk => ?_
    have F3 := F2.grow (h' := h') s1.toks fun b o e => hk b o (Nat.ne_of_lt (Heap.lt_size e)) e
    refine assignInOrder_cons (bindName_ (store_any (T := [(v1, d1)]) (F3.temps (T' := [(v2, d2), (v1, d1)]) ?_).toH hy fun s4 F4 => ?_))
    · intro p hp
      rcases List.mem_cons.mp hp with rfl | hp
      · exact .tail _ (.head _)
      · rcases List.mem_cons.mp hp with rfl | hp
        · exact .head _
        · cases hp
    · exact assignInOrder_cons (bindName_ (store_any (T := []) F4 hx fun s5 F5 => assignInOrder_nil (h2 _ F5.toFs)))) hs hw

theorem FsH.newTup {vs : List Value} {ds : List D} (F : FsH c S σ ρ lv (zipT vs ds T) H s) (hl : vs.length = ds.length) :
    FsH c S σ ρ lv ((.ref s.heap.objs.size, .tup ds) :: T) H { s with heap := s.heap.push { cls := .type "tuple", data := .seq vs.toArray } } := by
  obtain ⟨σo, Z, hσ, own, m, lm, F, G⟩ := F
  have le : ∀ a o, Z a o → Z a o ∨ (a = s.heap.objs.size ∧ o = ({ cls := .type "tuple", data := .seq vs.toArray } : Obj)) := fun _ _ h => .inl h
  refine ⟨σo, _, hσ.mono le, own, m, lm, ⟨F.core.learn (W := fun a o => a = s.heap.objs.size ∧ o = { cls := .type "tuple", data := .seq vs.toArray }) s.toks (fun b o e => Heap.get?_push_of_some _ e) (by rintro a o ⟨rfl, rfl⟩; exact Heap.get?_push_size _ rfl) (by rintro a o ⟨rfl, _⟩; exact size_none _), F.fn, fun x b e => (F.var x b e).mono le, fun x d e => ?_, fun p hp => ?_⟩, fun q hq => ?_⟩
  · obtain ⟨v, e, h⟩ := F.lov x d e
    exact ⟨v, e, h.mono le⟩
  · rcases List.mem_cons.mp hp with rfl | hp
    · exact .tup (.inr ⟨rfl, rfl⟩) rfl rfl ((IsL.of_zip hl fun p hp => F.tmp p (List.mem_append_left _ hp)).mono le)
    · exact (F.tmp p (List.mem_append_right _ hp)).mono le
  · obtain ⟨o, vs', n, h1, h2, h3⟩ := G q hq
    exact ⟨o, vs', n, h1, h2, h3.mono le⟩
theorem FsH.openTup {v : Value} {ds : List D} (F : FsH c S σ ρ lv T H s) (h : (v, D.tup ds) ∈ T) : ∃ a vs, v = .ref a ∧ vs.length = ds.length ∧ IsTup s.heap a vs.toArray ∧ FsH c S σ ρ lv (zipT vs ds T) H s := by
  obtain ⟨σo, Z, hσ, own, m, lm, F, G⟩ := F
  obtain ⟨a, vs, rfl, ht, hl⟩ := (F.tmp _ h).tupAt (s := s) fun a o hz => (F.core.zk a o hz).1
  refine ⟨a, vs, rfl, hl.length, ht, σo, Z, hσ, own, m, lm, ⟨F.core, F.fn, F.var, F.lov, fun p hp => ?_⟩, G⟩
  rcases List.mem_append.mp hp with hp | hp
  · obtain ⟨i, hi, e⟩ := List.getElem_of_mem hp
    have hi1 : i < vs.length := by rw [List.length_zip] at hi; omega
    have hi2 : i < ds.length := by rw [List.length_zip] at hi; omega
    rw [List.getElem_zip] at e
    obtain ⟨u, hu, hI⟩ := hl.get (i := i) (d := ds[i]) (by simp [hi2])
    have hu' : u = vs[i] := by rw [List.getElem?_eq_getElem hi1] at hu; exact (Option.some.inj hu).symm
    rw [← e, ← hu']; exact hI
  · exact F.tmp p hp
theorem FsH.isVal {v u : Value} (F : FsH c S σ ρ lv T H s) (h : (v, D.val u) ∈ T) : v = u := F.toFs.isVal h
theorem store_anyOwn {x : Str} {l : Addr} {ds : List D} {v : Value} {Q : Unit → Shared → Prop} (F : FsH c S σ ρ lv ((v, .val (.ref l)) :: T) H s) (hh : (x, l, ds) ∈ H) (hk : S.names.lookup x = some .local)
    (h : ∀ s', FsH c S σ ((x, .own l ds) :: ρ) lv T H s' → Q () s') : wpAny (model PG c.w) c.A (storeName (envAt c S .none) x v) Q NoE s := by
  obtain rfl := F.isVal (.head _)
  exact store_own (F.temps fun p hp => .tail _ hp) hh hk h

theorem starEach_two {e1 e2 : Expr} {env : Env} (h1 : ∀ env, starEach [e1, e2] env = (false, eval e1 env) :: starEach [e2] env) : starEach [e1, e2] env = (false, eval e1 env) :: starEach [e2] env := h1 env
/-- x, y = [], 0 -/
theorem Ex.own2 {x y : Str} {px py tp vp pos lp ip : Pos} {k k' ki : Nat} {n : Int} {rest : List Stmt} {P : Flow → Shared → Prop} (h2 : ∀ l, Ex c S σ ((x, .own l []) :: (y, .val (.int n)) :: ρ) rest P)
    (hx : S.names.lookup x = some .local := by rfl) (hy : Sto S y ρ)
    (hs : swapsWithSole [.Tuple [.Name x px, .Name y py] k tp] (.Tuple [.List [] lp, .Constant (.int n) ki ip] k' vp) pos.line (envAt c S .none) = pure false := by rfl)
    (hw : swappedStores [.Tuple [.Name x px, .Name y py] k tp] (.Tuple [.List [] lp, .Constant (.int n) ki ip] k' vp) (envAt c S .none) = pure (some [x, y]) := by rfl) :
    Ex c S σ ρ (.Assign [.Tuple [.Name x px, .Name y py] k tp] (.Tuple [.List [] lp, .Constant (.int n) ki ip] k' vp) pos :: rest) P := Ex.step fun s F => by
  refine Assign_Tuple_swapped (names := [x, y]) (wpAny_Tuple (spliced_more (wpAny_List (spliced_none ⟨by rw [sizeLine_eq]; simp, ?_⟩)) (by rfl))) hs hw
  have F1 : FsH c S σ ρ [] [] [(x, s.heap.objs.size, [])] _ := FsH.hold (vs := []) (ds := []) (T := []) F.toH rfl x
  refine spliced_more (wpAny_Constant_int (spliced_none ⟨by rw [sizeLine_eq]; simp, ?_⟩)) (by rfl)
  have F2 := (F1.grow (h' := _) (s.toks + 1) (fun b o e => e)).push (v := .int n s.toks) (d := .int n) fun _ => .int _ _
  have F3 := F2.push (v := .ref s.heap.objs.size) (d := .val (.ref s.heap.objs.size)) fun _ => .val _
  have F4 := FsH.newTup (vs := [.ref s.heap.objs.size, .int n s.toks]) (ds := [.val (.ref s.heap.objs.size), .int n]) (T := []) F3 rfl
  obtain ⟨a, vs, e, hl, ht, F5⟩ := F4.openTup (.head _)
  obtain ⟨v1, v2, rfl⟩ := len2 hl
  cases e
  refine unpackItems_tuple (items := #[v1, v2]) (handled F) ht fun h' hk => ?_
  have F6 := F5.grow (h' := h') (s.toks + 1) fun b o e => hk b o (Nat.ne_of_lt (Heap.lt_size e)) e
  refine assignInOrder_cons (bindName_ (store_any (T := [(v1, .val (.ref s.heap.objs.size))]) (F6.temps (T' := [(v2, .int n), (v1, .val (.ref s.heap.objs.size))]) ?_) hy fun s4 F7 => ?_))
  · intro p hp
    rcases List.mem_cons.mp hp with rfl | hp
    · exact .tail _ (.head _)
    · rcases List.mem_cons.mp hp with rfl | hp
      · exact .head _
      · cases hp
  · exact assignInOrder_cons (bindName_ (store_anyOwn (T := []) F7 (.head _) hx fun s5 F8 => assignInOrder_nil (h2 _ _ F8.toFs)))
/-- x = [comprehension] -/
theorem Ex.comp {x : Str} {elt target iter : Expr} {ifs : List Expr} {scope : Scope} {p' pos spos : Pos} {ds : List D} {rest : List Stmt} {P : Flow → Shared → Prop} (σf : Nat → Sg) (of : Nat → List D) (h1 : EvIt c S .none σ ρ [] target iter (σf 0) ds) (h0 : of 0 = [])
    (turn : ∀ i d, ds[i]? = some d → CompT c S scope ρ target elt ifs σf of i d) (h2 : Ex c S (σf ds.length) ((x, .val (.lst (of ds.length))) :: ρ) rest P) (hx : Sto S x ρ) (hz : ds.length ≤ 1000)
    (hclos : ∀ x ∈ scope.names, x.2 = .free → ∃ b, ρ.lookup x.1 = some b ∧ S.names.lookup x.1 = some .cell) (hcell : ∀ x ∈ scope.names, x.2 ≠ .cell := by decide)
    (hkind : scope.kind = .function := by rfl) (hnames : ∀ x ∈ scope.names, x.2 = .local → scope.names.lookup x.1 = some .local := by decide)
    (hs : ∀ env x, foldedSetIterable iter env x = pure x := by intros; rfl)
    (hsw : swapsWith (.ListComp elt [⟨target, iter, ifs, 0⟩] scope pos) (some (.Name x p')) spos.line (envAt c S .none) = pure true := by rfl) :
    Ex c S σ ρ (.Assign [.Name x p'] (.ListComp elt [⟨target, iter, ifs, 0⟩] scope pos) spos :: rest) P := Ex.step fun s F => by
  rw [exec_Assign_Name_used _ _ _ _ hsw]
  refine wpAny_bind (wpAny_standAt (wpAny_bind ?_))
  show wpAny _ _ (do let _ ← comprehension (.ListComp elt [⟨target, iter, ifs, 0⟩] scope pos) scope (envAt c S .none) _ (newList []) false (eval iter (envAt c S .none)) (some (PySem.assign (.Name x p') (envAt c S .none)))) _ _ s
  refine wpAny_bind (wpAny_mono (comp_rule (use := some (PySem.assign (.Name x p') (envAt c S .none))) (T := []) (Q := fun _ s' => Then c S rest P .next s') σf of F h1 h0 hz hclos hcell hkind hnames turn (fun acc k0 s' hk F' => ?_) (hs _)) (fun _ s' hq => wpAny_pure (wpAny_pure hq)) fun _ _ e => e)
  obtain ⟨σo, Z, hσ, own, m, lm, F'⟩ := F'
  obtain ⟨oC, hoC, hns, C'⟩ := F'.core.kpSig
  have F2 : Fs c S .none ((k0.C, same_ oC) :: σf ds.length) ρ [] [(acc, .lst (of ds.length))] s' := ⟨_, Z, .cons rfl hσ, own, m, lm, C', F'.fn, F'.var, fun x d e => (by cases e), F'.tmp⟩
  show wpAny _ _ (PySem.assign (.Name x p') (envAt c S .none) acc) _ _ _
  refine wpAny_assign_Name (store_any F2.toH hx fun s3 F3 => ?_)
  have F4 := F3.toFs
  clear F3
  obtain ⟨l3, Z3, hl3, own3, m3, lm3, F5⟩ := F4
  cases hl3 with
  | cons ho hl3 =>
  obtain rfl := ho
  refine ⟨lm, hns _ (F5.core.sg _ (.head _)).1, fun h' hsb => h2 _ ⟨_, Z3, hl3, own3, m3, lm3, F5.core.dropHead s3.toks fun b ob hb e => (hsb.2 b hb).trans e, F5.fn, F5.var, F5.lov, F5.tmp⟩⟩
end
end Mine
namespace Mine
section
variable {c : Cx} {S : Scope} {κ : Option Kp} {σ σ1 σ2 σ3 : Sg} {ρ ρ1 ρ2 : Rho} {lv : List (Str × D)} {T : List (Value × D)} {s : Shared}

/-- a new list of things that are known -/
theorem Fs.freshLst {ds : List D} {vs : List Value} {a : Addr} {n : Nat} (F : Fs c S κ σ ρ lv T s) {h' : Heap} (tk : Nat) (hI : ∀ Z : Kn, (∀ p ∈ T, Is Z p.2 p.1) → IsL Z ds vs)
    (k : ∀ b o, s.heap.get? b = some o → h'.get? b = some o) (hn : s.heap.get? a = none) (ha : h'.get? a = some (lstO vs n)) : Fs c S κ σ ρ lv ((.ref a, .lst ds) :: T) { s with heap := h', toks := tk } :=
  F.learn (W := fun b o => b = a ∧ o = lstO vs n) tk k (by rintro b o ⟨rfl, rfl⟩; exact ha) (by rintro b o ⟨rfl, _⟩; exact hn) fun Z hz => .lst (.inr ⟨rfl, rfl⟩) rfl rfl ((hI Z hz).mono fun _ _ h => .inl h)
theorem Fs.freshTup {ds : List D} {vs : List Value} {a : Addr} {n : Nat} (F : Fs c S κ σ ρ lv T s) {h' : Heap} (tk : Nat) (hI : ∀ Z : Kn, (∀ p ∈ T, Is Z p.2 p.1) → IsL Z ds vs)
    (k : ∀ b o, s.heap.get? b = some o → h'.get? b = some o) (hn : s.heap.get? a = none) (ha : h'.get? a = some { cls := .type "tuple", data := .seq vs.toArray n }) : Fs c S κ σ ρ lv ((.ref a, .tup ds) :: T) { s with heap := h', toks := tk } :=
  F.learn (W := fun b o => b = a ∧ o = { cls := .type "tuple", data := .seq vs.toArray n }) tk k (by rintro b o ⟨rfl, rfl⟩; exact ha) (by rintro b o ⟨rfl, _⟩; exact hn) fun Z hz => .tup (.inr ⟨rfl, rfl⟩) rfl rfl ((hI Z hz).mono fun _ _ h => .inl h)
theorem IsL.drop {Z : Kn} : ∀ {ds : List D} {vs : List Value}, IsL Z ds vs → ∀ k, IsL Z (ds.drop k) (vs.drop k)
  | _, _, h, 0 => h
  | _, _, .nil, k + 1 => .nil
  | _, _, .cons _ r, k + 1 => r.drop k
theorem IsL.take {Z : Kn} : ∀ {ds : List D} {vs : List Value}, IsL Z ds vs → ∀ k, IsL Z (ds.take k) (vs.take k)
  | _, _, h, 0 => .nil
  | _, _, .nil, k + 1 => .nil
  | _, _, .cons h r, k + 1 => .cons h (r.take k)
theorem isL_zip {vs : List Value} {ds : List D} {Z : Kn} (hl : vs.length = ds.length) (h : ∀ p ∈ zipT vs ds T, Is Z p.2 p.1) : IsL Z ds vs := IsL.of_zip hl fun p hp => h p (List.mem_append_left _ hp)
theorem isL_zip2 {vs us : List Value} {ds es : List D} {Z : Kn} (hl : vs.length = ds.length) (h : ∀ p ∈ zipT us es (zipT vs ds T), Is Z p.2 p.1) : IsL Z ds vs := isL_zip hl fun p hp => h p (List.mem_append_right _ hp)
theorem Fs.back {vs : List Value} {ds : List D} (F : Fs c S κ σ ρ lv (zipT vs ds T) s) : Fs c S κ σ ρ lv T s := F.temps fun _ h => List.mem_append_right _ h
theorem isL_ints {Z : Kn} : ∀ {ns : List Int} {vs : List Value}, IsL Z (ns.map .int) vs → IntsAre vs ns
  | [], _, .nil => .nil
  | _ :: _, _, .cons (.int n t) r => .cons n t (isL_ints r)
end

section
variable {w : World}
theorem bin_addLst {ds es : List D} (hz : ds.length + es.length ≤ 1000) : Bin w .Add (.lst ds) (.lst es) (.lst (ds ++ es)) := fun c S κ σ ρ lv T s Q v1 v2 hw F h => by
  obtain ⟨a, us, rfl, hlu, hu, F1⟩ := F.openLst (.head _)
  obtain ⟨b, vs, rfl, hlv, hv, F2⟩ := F1.openLst (List.mem_append_right _ (.tail _ (.head _)))
  obtain ⟨⟨cls, dd, data, sl⟩, ho, hc, n, hd⟩ := id hv
  obtain ⟨⟨cls2, dd2, data2, sl2⟩, ho2, hc2, n2, hd2⟩ := id hu
  simp only at hc hd hc2 hd2
  subst hc hd hc2 hd2
  refine concat_meets ⟨_, ho, rfl⟩ ⟨_, ho2, rfl⟩ noFill_list_add seq_list_add PySem.F.slot_list_add PySem.F.entry_list_add (PySem.F.args_list_add_2 _ _) (list_addW b a vs.toArray us.toArray n n2 dd dd2 sl sl2 (by rw [sizeLine_eq]; simp [hlu, hlv]; omega)) ⟨ho, ho2, ?_⟩
  have e : vs.toArray ++ us.toArray = (vs ++ us).toArray := by simp
  rw [e]
  have F3 := F2.freshLst (ds := ds ++ es) (vs := vs ++ us) (n := 0) (h' := s.heap.push { cls := .type "list", data := .seq (vs ++ us).toArray }) s.toks (fun Z hz => IsL.append (isL_zip2 hlu hz) (isL_zip hlv hz)) (fun _ _ e => Heap.get?_push_of_some _ e) (size_none _) (Heap.get?_push_size _ rfl)
  refine h _ _ (F3.temps fun p hp => ?_)
  rcases List.mem_cons.mp hp with rfl | hp
  · exact .head _
  · exact .tail _ (List.mem_append_right _ (List.mem_append_right _ (.tail _ (.tail _ hp))))

theorem bf_listT {ds : List D} (hz : ds.length ≤ 1000) : Bf w (.type "list") [.tup ds] (.lst ds) := fun c S κ σ ρ lv T vs s Q hw hl F h => by
  obtain ⟨v, rfl⟩ := len1 hl
  obtain ⟨a, us, rfl, hlu, hu, F1⟩ := F.openTup (.head _)
  obtain ⟨o, ho, hc, n, hd⟩ := hu
  refine call_list_seq a (.inr rfl) ho hc hd (fun h' c' k hg => ?_) (by rw [sizeLine_eq]; simp [hlu]; omega)
  have F2 := F1.freshLst (ds := ds) (vs := us) s.toks (fun Z hz => isL_zip hlu hz) k (size_none _) hg
  refine h _ _ (F2.temps fun p hp => ?_)
  rcases List.mem_cons.mp hp with rfl | hp
  · exact .head _
  · exact .tail _ (List.mem_append_right _ (List.mem_append_right _ hp))
theorem bf_listL {ds : List D} (hz : ds.length ≤ 1000) : Bf w (.type "list") [.lst ds] (.lst ds) := fun c S κ σ ρ lv T vs s Q hw hl F h => by
  obtain ⟨v, rfl⟩ := len1 hl
  obtain ⟨a, us, rfl, hlu, hu, F1⟩ := F.openLst (.head _)
  obtain ⟨o, ho, hc, n, hd⟩ := hu
  refine call_list_seq a (.inl rfl) ho hc hd (fun h' c' k hg => ?_) (by rw [sizeLine_eq]; simp [hlu]; omega)
  have F2 := F1.freshLst (ds := ds) (vs := us) s.toks (fun Z hz => isL_zip hlu hz) k (size_none _) hg
  refine h _ _ (F2.temps fun p hp => ?_)
  rcases List.mem_cons.mp hp with rfl | hp
  · exact .head _
  · exact .tail _ (List.mem_append_right _ (List.mem_append_right _ hp))
theorem bf_tupleL {ds : List D} (hz : ds.length ≤ 1000) : Bf w (.type "tuple") [.lst ds] (.tup ds) := fun c S κ σ ρ lv T vs s Q hw hl F h => by
  obtain ⟨v, rfl⟩ := len1 hl
  obtain ⟨a, us, rfl, hlu, hu, F1⟩ := F.openLst (.head _)
  refine call_tuple_list hu (fun h' k => ?_) (by rw [sizeLine_eq]; simp [hlu]; omega)
  have F2 := (F1.grow (h' := h') s.toks k).freshTup (ds := ds) (vs := us) (n := 0) (h' := h'.push { cls := .type "tuple", data := .seq us.toArray }) s.toks (fun Z hz => isL_zip hlu hz) (fun _ _ e => Heap.get?_push_of_some _ e) (size_none _) (Heap.get?_push_size _ rfl)
  refine h _ _ (F2.temps fun p hp => ?_)
  rcases List.mem_cons.mp hp with rfl | hp
  · exact .head _
  · exact .tail _ (List.mem_append_right _ (List.mem_append_right _ hp))
theorem bf_lenL {ds : List D} (hz : ds.length ≤ 1000) : Bf w (.builtin "len") [.lst ds] (.int ds.length) := fun c S κ σ ρ lv T vs s Q hw hl F h => by
  obtain ⟨v, rfl⟩ := len1 hl
  obtain ⟨a, us, rfl, hlu, hu, F1⟩ := F.openLst (.head _)
  refine call_len_list hu (by simp [hlu]; omega) (h _ _ ((F1.tick _).temps (T' := T) (fun p hp => List.mem_append_right _ (List.mem_append_right _ hp)) |>.push fun Z => ?_))
  rw [show (us.toArray.size : Int) = (ds.length : Int) by simp [hlu]]
  exact .int _ _
theorem bf_lenS {x : Str} (hz : x.length ≤ 1000) : Bf w (.builtin "len") [.str x] (.int x.length) := fun c S κ σ ρ lv T vs s Q hw hl F h => by
  obtain ⟨v, rfl⟩ := len1 hl
  obtain ⟨t, rfl⟩ := F.isStr (.head _)
  exact PySem.P.len_str (by omega) (h _ _ ((F.tick _).arg0.push fun Z => .int _ _))
theorem bf_sum {ns : List Int} : Bf w (.builtin "sum") [.lst (ns.map .int)] (.int ns.sum) := fun c S κ σ ρ lv T vs s Q hw hl F h => by
  obtain ⟨v, rfl⟩ := len1 hl
  obtain ⟨a, us, rfl, hlu, hu, F1⟩ := F.openLst (.head _)
  have hh := handled F1
  obtain ⟨Z, hZ⟩ : ∃ Z, ∀ p ∈ zipT us (ns.map D.int) (zipT [.ref a] [.lst (ns.map .int)] T), Is Z p.2 p.1 := by obtain ⟨σo, Z, hσ, own, m, lm, F1⟩ := F1; exact ⟨Z, F1.tmp⟩
  have hi := isL_ints (isL_zip hlu hZ)
  obtain ⟨xs, hx⟩ := hi.allInts.items
  have hn : numsOf us.toArray.toList = ns := by rw [show us.toArray.toList = us from rfl, hi.numsOf]
  rw [hx] at hu hn
  rw [nums_intItems] at hn
  refine sum_intListG hh hu fun h' tk t' hk => h _ _ (((F1.grow tk hk).back.arg0).push fun Z => ?_)
  rw [preSum_eq, List.take_of_length_le (by simp), hn]
  exact .int _ _
theorem bf_max {a b : Int} : Bf w (.builtin "max") [.int a, .int b] (.int (if b > a then b else a)) := fun c S κ σ ρ lv T vs s Q hw hl F h => by
  obtain ⟨v, u, rfl⟩ := len2 hl
  obtain ⟨t, rfl⟩ := F.isInt (.head _)
  obtain ⟨t', rfl⟩ := F.isInt (.tail _ (.head _))
  have hh := handled F
  refine max_two_ints hh fun h' tk hk => h _ _ (((F.grow tk hk).back).push fun Z => ?_)
  split <;> exact .int _ _
theorem bf_ord {n : Nat} : Bf w (.builtin "ord") [.str ⟨#[n]⟩] (.int n) := fun c S κ σ ρ lv T vs s Q hw hl F h => by
  obtain ⟨v, rfl⟩ := len1 hl
  obtain ⟨t, rfl⟩ := F.isStr (.head _)
  exact PySem.P.ord_of_char (h _ _ ((F.tick _).arg0.push fun Z => .int _ _))
end

section
variable {c : Cx} {S : Scope} {κ : Option Kp} {σ σ1 σ2 σ3 : Sg} {ρ ρ1 ρ2 : Rho} {lv : List (Str × D)} {T : List (Value × D)} {s : Shared}
/-- x and y, as a value -/
theorem Ev.and2 {x y : Expr} {pos : Pos} {p : Bool} {d : D} (h1 : Ev c S κ σ ρ lv x σ1 (.bool p)) (h2 : p = true → Ev c S κ σ1 ρ lv y σ2 d) (h3 : p = false → σ2 = σ1 ∧ d = .bool false) : Ev c S κ σ ρ lv (.BoolOp .And [x, y] pos) σ2 d := fun T s Q F h =>
  wpAny_And2 (h1 T s _ F fun v s1 F1 => by
    obtain rfl := F1.isBool (.head _)
    refine wpAny_truthy_bool ?_
    cases p with
    | true => exact h2 rfl T s1 _ F1.drop1 h
    | false => obtain ⟨rfl, rfl⟩ := h3 rfl; exact h _ s1 F1)
theorem Ev.fromL {value lo : Expr} {p pos : Pos} {ds : List D} {a : Nat} (h1 : Ev c S κ σ ρ lv value σ1 (.lst ds)) (h2 : Ev c S κ σ1 ρ lv lo σ2 (.int a)) (hz : ds.length ≤ 1000) (ht : ∀ o r, letTemporaryGo value o r = pure () := by intro _ _; rfl) :
    Ev c S κ σ ρ lv (.Subscript value (.Slice (some lo) Option.none Option.none p) pos) σ2 (.lst (ds.drop a)) := fun T s Q F h =>
  wpAny_Subscript_list_slice (h1 T s _ F fun v1 s1 F1 => h2 _ s1 _ F1 fun v2 s2 F2 => by
    rw [evalPart_none]
    obtain ⟨t, rfl⟩ := F2.isInt (.head _)
    obtain ⟨l, vs, rfl, hl, hL, F3⟩ := F2.openLst (.tail _ (.head _))
    refine wpAny_pure ⟨l, vs.toArray, some a, Option.none, rfl, hL, by rw [sizeLine_eq]; simp [hl]; omega, .int _ _, .none, ?_⟩
    rw [slicePick_from']
    have hsz : (s2.heap.push { cls := .type "slice", data := .fields #[.int a t, .none, .none] }).objs.size = s2.heap.objs.size + 1 := Heap.size_push ..
    have F4 := F3.grow (h' := s2.heap.push { cls := .type "slice", data := .fields #[.int a t, .none, .none] }) s2.toks fun _ _ e => Heap.get?_push_of_some _ e
    have F5 := F4.freshLst (ds := ds.drop a) (vs := vs.drop a) (n := 0) (a := s2.heap.objs.size + 1) (h' := (s2.heap.push { cls := .type "slice", data := .fields #[.int a t, .none, .none] }).push { cls := .type "list", data := .seq (vs.drop a).toArray }) s2.toks
      (fun Z hz => (isL_zip hl hz).drop a) (fun _ _ e => Heap.get?_push_of_some _ e) (hsz ▸ size_none _) (hsz ▸ Heap.get?_push_size _ rfl)
    refine h _ _ (F5.temps fun p hp => ?_)
    rcases List.mem_cons.mp hp with rfl | hp
    · exact .head _
    · exact .tail _ (List.mem_append_right _ (.tail _ (.tail _ hp)))) ht
theorem Ev.uptoL {value hi : Expr} {p pos : Pos} {ds : List D} {a : Nat} (h1 : Ev c S κ σ ρ lv value σ1 (.lst ds)) (h2 : Ev c S κ σ1 ρ lv hi σ2 (.int a)) (hz : ds.length ≤ 1000) (ht : ∀ o r, letTemporaryGo value o r = pure () := by intro _ _; rfl) :
    Ev c S κ σ ρ lv (.Subscript value (.Slice Option.none (some hi) Option.none p) pos) σ2 (.lst (ds.take a)) := fun T s Q F h =>
  wpAny_Subscript_list_slice (h1 T s _ F fun v1 s1 F1 => by
    rw [evalPart_none]
    refine wpAny_pure (h2 _ s1 _ F1 fun v2 s2 F2 => ?_)
    obtain ⟨t, rfl⟩ := F2.isInt (.head _)
    obtain ⟨l, vs, rfl, hl, hL, F3⟩ := F2.openLst (.tail _ (.head _))
    refine ⟨l, vs.toArray, Option.none, some a, rfl, hL, by rw [sizeLine_eq]; simp [hl]; omega, .none, .int _ _, ?_⟩
    rw [slicePick_upto']
    have hsz : (s2.heap.push { cls := .type "slice", data := .fields #[.none, .int a t, .none] }).objs.size = s2.heap.objs.size + 1 := Heap.size_push ..
    have F4 := F3.grow (h' := s2.heap.push { cls := .type "slice", data := .fields #[.none, .int a t, .none] }) s2.toks fun _ _ e => Heap.get?_push_of_some _ e
    have F5 := F4.freshLst (ds := ds.take a) (vs := vs.take a) (n := 0) (a := s2.heap.objs.size + 1) (h' := (s2.heap.push { cls := .type "slice", data := .fields #[.none, .int a t, .none] }).push { cls := .type "list", data := .seq (vs.take a).toArray }) s2.toks
      (fun Z hz => (isL_zip hl hz).take a) (fun _ _ e => Heap.get?_push_of_some _ e) (hsz ▸ size_none _) (hsz ▸ Heap.get?_push_size _ rfl)
    refine h _ _ (F5.temps fun p hp => ?_)
    rcases List.mem_cons.mp hp with rfl | hp
    · exact .head _
    · exact .tail _ (List.mem_append_right _ (.tail _ (.tail _ hp)))) ht
/-- x[-1] of a list that still grows -/
theorem Ev.ownLast {x : Str} {np ip up pos : Pos} {ki : Nat} {l : Addr} {ds : List D} {d : D} (hx : ρ.lookup x = some (.own l ds)) (hd : ds.getLast? = some d) (hz : ds.length ≤ 1000) (hk : S.names.lookup x = some .local := by rfl) (hb : (x == ("__debug__" : Str)) = false := by decide) :
    Ev c S .none σ ρ lv (.Subscript (.Name x np) (.UnaryOp .USub (.Constant (.int 1) ki ip) up) pos) σ d := fun T s Q F h => by
  refine Subscript_ ?_
  have F0 := F
  obtain ⟨σo, Z, hσ, own, m, lm, F⟩ := F
  cases F.var _ _ hx with
  | loc _ hv hb' =>
    cases hb' with
    | @own _ _ o vs n hm ho hl =>
      refine wpAny_Name (wpAny_loadName_local F.fn hk F.core.fr.ns hv ?_) hb
      have hg := (F.core.ow _ (List.mem_map_of_mem hm)).1
      rw [ho] at hg
      refine wpAny_UnaryOp (wpAny_Constant_int (neg_int ?_))
      have hL : s.heap.IsList l vs.toArray := ⟨_, hg, rfl, n, rfl⟩
      have hne : ds ≠ [] := fun e => by rw [e] at hd; cases hd
      have hlen : 0 < ds.length := List.length_pos_iff.mpr hne
      rw [List.getLast?_eq_getElem?] at hd
      obtain ⟨v, hv', hi⟩ := hl.get hd
      refine tail_any (T := "list") (show Shared.TypeIs _ _ _ from ⟨_, hg, rfl⟩) slot_list_getitem.lookup (wpAny_getItem_list_neg (s := { s with toks := _ }) hL (by decide) (by simp [hl.length]; omega) (by decide) (x := v) ?_ (h v _ ?_)) (by with_unfolding_all rfl)
      · have : ((-1 : Int) + (vs.toArray.size : Int)).toNat = ds.length - 1 := by simp [hl.length]; omega
        rw [this]; simpa using hv'
      · refine Fs.tick (s := s) ⟨σo, Z, hσ, own, m, lm, F.core, F.fn, F.var, F.lov, fun p hp => ?_⟩ _
        rcases List.mem_cons.mp hp with rfl | hp
        · exact hi
        · exact F.tmp p hp
end
end Mine
namespace Mine
mutual
/-- a plain tree's data -/
noncomputable def D.pd : D → PyData
  | .val _ => .none
  | .none => .none
  | .bool b => .bool b
  | .int n => .int n
  | .str x => .str x
  | .tup ds => .tuple (pds ds)
  | .lst ds => .list (pds ds)
  | .obj _ _ => .none
  | .fn _ _ => .none
noncomputable def pds : List D → List PyData
  | [] => []
  | d :: r => d.pd :: pds r
end
mutual
noncomputable def D.pok : D → Bool
  | .val _ => false
  | .none => true
  | .bool _ => true
  | .int _ => true
  | .str _ => true
  | .tup ds => poks ds
  | .lst ds => poks ds
  | .obj _ _ => false
  | .fn _ _ => false
noncomputable def poks : List D → Bool
  | [] => true
  | d :: r => d.pok && poks r
end
mutual
theorem Is.reads {Z : Kn} {h : Heap} (k : ∀ a o, Z a o → h.get? a = some o) : ∀ {d : D} {v : Value}, Is Z d v → d.pok = true → ∃ as, Reads h v d.pd as
  | _, _, .val _, e => by simp [D.pok] at e
  | _, _, .none, _ => ⟨_, by simpa [D.pd] using Reads.none⟩
  | _, _, .bool b, _ => ⟨_, by simpa [D.pd] using Reads.bool b⟩
  | _, _, .int n t, _ => ⟨_, by simpa [D.pd] using Reads.int n t⟩
  | _, _, .str x t, _ => ⟨_, by simpa [D.pd] using Reads.str x t⟩
  | _, _, .tup hz hc hd hl, e => by
    obtain ⟨as, q⟩ := hl.reads k (by simpa [D.pok] using e)
    exact ⟨_, by rw [D.pd]; exact reads_tuple_at (k _ _ hz) hc hd (by simpa using q)⟩
  | _, _, .lst hz hc hd hl, e => by
    obtain ⟨as, q⟩ := hl.reads k (by simpa [D.pok] using e)
    exact ⟨_, by rw [D.pd]; exact reads_list_at (k _ _ hz) hc hd (by simpa using q)⟩
  | _, _, .obj _ _ _ _ _ _, e => by simp [D.pok] at e
  | _, _, .fn _ _ _ _ _ _, e => by simp [D.pok] at e
theorem IsL.reads {Z : Kn} {h : Heap} (k : ∀ a o, Z a o → h.get? a = some o) : ∀ {ds : List D} {vs : List Value}, IsL Z ds vs → poks ds = true → ∃ as, ReadsAll h vs (pds ds) as
  | _, _, .nil, _ => ⟨_, by rw [pds]; exact .nil⟩
  | _, _, .cons hi r, e => by
    rw [poks, Bool.and_eq_true] at e
    obtain ⟨as, q⟩ := hi.reads k e.1
    obtain ⟨bs, p⟩ := r.reads k e.2
    exact ⟨_, by rw [pds]; exact .cons q p⟩
end
mutual
theorem eqv_refl : ∀ d : D, d.pok = true → PyData.eqv d.pd d.pd = true
  | .val _, e => by simp [D.pok] at e
  | .none, _ => by simp [D.pd, PyData.eqv]
  | .bool _, _ => by simp [D.pd, PyData.eqv]
  | .int _, _ => by simp [D.pd, PyData.eqv]
  | .str _, _ => by simp [D.pd, PyData.eqv]
  | .tup ds, e => by rw [D.pd, PyData.eqv]; exact eqvs_refl ds (by simpa [D.pok] using e)
  | .lst ds, e => by rw [D.pd, PyData.eqv]; exact eqvs_refl ds (by simpa [D.pok] using e)
  | .obj _ _, e => by simp [D.pok] at e
  | .fn _ _, e => by simp [D.pok] at e
theorem eqvs_refl : ∀ ds : List D, poks ds = true → PyData.eqvAll (pds ds) (pds ds) = true
  | [], _ => by simp [pds, PyData.eqvAll]
  | d :: r, e => by
    rw [poks, Bool.and_eq_true] at e
    rw [pds, PyData.eqvAll, eqv_refl d e.1, eqvs_refl r e.2]; rfl
end
theorem Fs.reads {c : Cx} {S : Scope} {κ : Option Kp} {σ : Sg} {ρ : Rho} {lv : List (Str × D)} {T : List (Value × D)} {s : Shared} {v : Value} {d : D} (F : Fs c S κ σ ρ lv T s) (h : (v, d) ∈ T) (e : d.pok = true) : ∃ as, Reads s.heap v d.pd as := by
  obtain ⟨σo, Z, hσ, own, m, lm, F⟩ := F
  exact (F.tmp _ h).reads (fun a o hz => (F.core.zk a o hz).1) e
section
variable {w : World}
theorem cmp_eqD {d e : D} {b : Bool} (hd : d.pok = true) (he : e.pok = true) (h1 : SeqAt.shaped d.pd = true) (h2 : SeqAt.shaped e.pd = true) (hb : PyData.eqv d.pd e.pd = b) : Cmp w .Eq d e b := fun c S κ σ ρ lv T s Q v1 v2 hw F h => by
  obtain ⟨as, r1⟩ := F.reads (.tail _ (.head _)) hd
  obtain ⟨bs, r2⟩ := F.reads (.head _) he
  refine eq_dataH r1 r2 h1 h2 (by have := F.ok.units; omega) ?_
  rw [hb]; exact h _ F.drop2
theorem cmp_neD {d e : D} {b : Bool} (hd : d.pok = true) (he : e.pok = true) (h1 : SeqAt.shaped d.pd = true) (h2 : SeqAt.shaped e.pd = true) (hb : (!PyData.eqv d.pd e.pd) = b) : Cmp w .NotEq d e b := fun c S κ σ ρ lv T s Q v1 v2 hw F h => by
  obtain ⟨as, r1⟩ := F.reads (.tail _ (.head _)) hd
  obtain ⟨bs, r2⟩ := F.reads (.head _) he
  refine ne_dataH r1 r2 h1 h2 (by have := F.ok.units; omega) ?_
  rw [hb]; exact h _ F.drop2
theorem cmp_eqSame {d : D} (hd : d.pok = true) (h1 : SeqAt.shaped d.pd = true) : Cmp w .Eq d d true := cmp_eqD hd hd h1 h1 (eqv_refl d hd)
theorem cmp_neSame {d : D} (hd : d.pok = true) (h1 : SeqAt.shaped d.pd = true) : Cmp w .NotEq d d false := cmp_neD hd hd h1 h1 (by rw [eqv_refl d hd]; rfl)
/-- a list, whatever it holds, is not the empty one -/
theorem cmp_neNil {ds : List D} : Cmp w .NotEq (.lst ds) (.lst []) (!ds.isEmpty) := fun c S κ σ ρ lv T s Q v1 v2 hw F h => by
  cases ds with
  | nil => exact cmp_neSame (w := w) (d := .lst []) rfl rfl c S κ σ ρ lv T s Q v1 v2 hw F h
  | cons d r =>
    obtain ⟨b, us, rfl, hlu, hu, F1⟩ := F.openLst (.head _)
    obtain ⟨a, vs, rfl, hlv, hv, F2⟩ := F1.openLst (List.mem_append_right _ (.tail _ (.head _)))
    obtain rfl := len0 hlu
    have hun := F.ok.units
    exact SeqAt.RcNeAt.lists_lengths hv hu (by simp [hlv]) (by omega) PG c.w NoE Q (h _ F.drop2)
end
end Mine
namespace Mine
/-- a text of plain signs -/
noncomputable abbrev txt (ks : List Nat) : Str := ⟨ks.toArray⟩
noncomputable abbrev signs (ks : List Nat) : List D := ks.map fun c => D.str ⟨#[c]⟩
section
variable {c : Cx} {S : Scope} {κ : Option Kp} {σ σ1 σ2 σ3 : Sg} {ρ ρ1 ρ2 : Rho} {lv : List (Str × D)} {T : List (Value × D)} {s : Shared}

theorem FsAt.drop {σo : Led} {Z : Kn} {own : Own} {m lm : Str → Option Value} {p : Value × D} (F : FsAt c S κ σo ρ lv (p :: T) s Z own m lm) : FsAt c S κ σo ρ lv T s Z own m lm := ⟨F.core, F.fn, F.var, F.lov, fun q hq => F.tmp q (.tail _ hq)⟩
theorem Core.offs {σ : Led} {Z : Kn} {own : Own} {m lm : Str → Option Value} (C : Core c κ σ Z own m lm s) {wr : List Addr} (hn : wr.Nodup) (hb : ∀ b ∈ wr, s.heap.get? b = none) : Off c κ σ Z own wr :=
  ⟨hn, fun b h => (C.off1 (hb b h)).2 b (.head _)⟩

/-- over a text -/
theorem EvIt.str {target e : Expr} {ks : List Nat} (ha : ks.all (· < 128) = true) (h1 : Ev c S κ σ ρ lv e σ1 (.str (txt ks))) : EvIt c S κ σ ρ lv target e σ1 (signs ks) := fun T s Q F h =>
  h1 T s _ F fun v s1 F1 => by
    have hh := handled F1
    obtain ⟨t, rfl⟩ := F1.isStr (.head _)
    obtain ⟨σo, Z, hσ, own, m, lm, F1⟩ := F1
    have k : ∀ b o, s1.heap.get? b = some o → (s1.heap.push { cls := .type "str_ascii_iterator", data := .fields #[.str (txt ks) t, .int 0 0] }).get? b = some o := fun b o e => Heap.get?_push_of_some _ e
    refine wpAny_pyIter_ascii (by simpa using ha) ?_
    have W := Walks.strAscii (prog := PG) (w := c.w) hh s1.heap.objs.size (txt ks) t
    rw [show (txt ks).cps.size = (signs ks).length by simp] at W
    refine h s1.heap.objs.size _ _ _ _ σo Z own m lm hσ ⟨F1.core.grow s1.toks k, F1.fn, F1.var, F1.lov, fun p hp => F1.tmp p (.tail _ hp)⟩ (Wk.ofWalks W (fun i h st b hb => ?_) (fun i h st => ?_) fun i d v hdi hp Z' hz' => ?_) ⟨_, Heap.get?_push_size _ rfl, rfl, rfl⟩ (F1.core.off1 (size_none _)) fun b hb => .inl hb
    · obtain ⟨o, ho, _⟩ := st
      exact ⟨o, (List.mem_singleton.mp hb) ▸ ho⟩
    · obtain ⟨o, ho, hc, _⟩ := st
      exact ⟨o, ho, .inr (.inr hc)⟩
    · obtain ⟨n, u, hn, rfl⟩ := hp
      simp only [List.getElem?_map, Option.map_eq_some_iff] at hdi
      obtain ⟨n', hn', rfl⟩ := hdi
      have : n' = n := by simpa [hn'] using hn
      subst this
      exact .str _ _

theorem Wk.ofWalksT {w : World} {A : Around} {elts : List Expr} {k : Nat} {pos : Pos} {I : Addr} {fp wr : List Addr} {ess : List (List D)} {Zs : Kn} {Pt : Nat → Array Value → Prop} {St : Nat → Heap → Prop} {Mid : Nat → Addr → Heap → Prop}
    (W : WalksT PG w A I fp wr ess.length Pt St Mid) (live : ∀ i h, St i h → ∀ b ∈ wr, ∃ o, h.get? b = some o)
    (hP : ∀ i es vals, ess[i]? = some es → Pt i vals → ∀ Z : Kn, (∀ a o, Zs a o → Z a o) → IsL Z es vals.toList) : Wk w A (.Tuple elts k pos) I fp wr (ess.map .tup) Zs St where
  sub := W.sub
  live := live
  frame := W.frame
  next := fun i d s Q hd st h => by
    simp only [List.getElem?_map, Option.map_eq_some_iff] at hd
    obtain ⟨es, hes, rfl⟩ := hd
    refine W.item i s _ _ (List.getElem?_eq_some_iff.mp hes).1 st fun Ta vals h' tk hp hT htup hmid hk => ⟨_, rfl, ?_⟩
    refine W.go elts k pos i Ta { s with heap := h', toks := tk } _ _ hmid fun h'' st' hk2 => ?_
    obtain ⟨o, ho, hc, n, hdat⟩ := htup
    have nT : s.heap.get? Ta = none := by
      cases q : s.heap.get? Ta with
      | none => rfl
      | some o' => exact absurd (Heap.lt_size q) (Nat.not_lt.mpr hT)
    refine h (.ref Ta) h'' tk (fun a oa => a = Ta ∧ oa = o) st' (fun b o hb e => hk2 b o hb (hk b o hb e)) ?_ fun Z hz => ?_
    · rintro a oa ⟨rfl, rfl⟩
      exact ⟨hk2 _ _ (W.apart _ _ _ hmid) ho, nT⟩
    · exact .tup (.inr ⟨rfl, rfl⟩) hc (by rw [hdat]) ((hP i es vals hes hp Z hz).mono fun _ _ h => .inl h)
  done := fun s Q st h => W.done s _ _ (by rw [List.length_map] at st; exact st) fun h' tk hk => ⟨rfl, h h' tk hk⟩
  self := W.self

/-- enumerate(text) -/
theorem EvIt.enumS {elts : List Expr} {k : Nat} {tpos : Pos} {e : Expr} {p pos : Pos} {ks : List Nat} (g : Bt c.w "enumerate" (.type "enumerate")) (ha : ks.all (· < 128) = true) (h1 : Ev c S κ σ ρ lv e σ1 (.str (txt ks)))
    (hk : ∀ L a ccd cl cn C kcl, (match κ with | .none => envX cn S L a ccd cl | .some k => compEnvC k.scope kcl C (envX cn S L a ccd cl)).kindOf "enumerate" = some .globalImplicit := by intros; rfl)
    (he : ∀ env, starEach [e] env = (false, eval e env) :: starEach [] env := by intro _; rfl) :
    EvIt c S κ σ ρ lv (.Tuple elts k tpos) (.Call (.Name "enumerate" p) [e] [] pos) σ1 ((ks.zipIdx.map fun q => [D.int q.2, D.str ⟨#[q.1]⟩]).map .tup) := fun T s Q F h => by
  have hk' : (envAt c S κ).kindOf "enumerate" = some .globalImplicit := by
    have := hk c.L c.a c.ccd c.cl c.cn
    cases κ with
    | none => exact this default default
    | some k => exact this k.C k.cl
  refine wpAny_Call_NameR (name_boot F g.at_ g.boot g.ne (PyProof.Rows.callWith_type1 (spliced_more (h1 T s _ F fun v s1 F1 => spliced_none ?_) (he _)) (he _) rfl) hk' (by decide))
  have hh := handled F1
  obtain ⟨t, rfl⟩ := F1.isStr (.head _)
  obtain ⟨σo, Z, hσ, own, m, lm, F1⟩ := F1
  refine call_enumerate_str fun h' he' hit hsz k1 => ?_
  have hty : strIterType (txt ks) = "str_ascii_iterator" := by unfold strIterType; simp only [show (txt ks).cps.all (· < 128) = true by simpa using ha, if_true]
  rw [hty] at hit
  refine wpAny_pyIter_enum he' ?_
  have n1 : s1.heap.get? s1.heap.objs.size = none := size_none _
  have n2 : s1.heap.get? (s1.heap.objs.size + 1) = none := by
    cases q : s1.heap.get? (s1.heap.objs.size + 1) with
    | none => rfl
    | some o' => exact absurd (Heap.lt_size q) (Nat.not_lt.mpr (Nat.le_succ _))
  have hne : s1.heap.objs.size + 1 ≠ s1.heap.objs.size := by show (_ : Nat) + 1 ≠ _; omega
  have Dr : Draws PG c.w c.A.in1 s1.heap.objs.size [s1.heap.objs.size] _ _ _ := Draws.strAscii (prog := PG) (w := c.w) (A := c.A.in1) hh s1.heap.objs.size (txt ks) t
  have W := WalksT.enumerateD Dr (s1.heap.objs.size + 1) hne (by simp [hne]) (by simp)
  rw [show (txt ks).cps.size = (ks.zipIdx.map fun q => [D.int q.2, D.str ⟨#[q.1]⟩]).length by simp] at W
  refine h (s1.heap.objs.size + 1) _ _ _ { s1 with heap := h' } σo Z own m lm hσ ⟨F1.core.grow s1.toks k1, F1.fn, F1.var, F1.lov, fun p hp => F1.tmp p (.tail _ hp)⟩ (Wk.ofWalksT W (fun i hp st b hb => ?_) fun i es vals hes hp Z' hz' => ?_) ⟨⟨.none, he'⟩, hit⟩
    (F1.core.offs (by simp [hne]) (fun b hb => ?_)) fun b hb => .inl ?_
  · obtain ⟨⟨old, hE⟩, o, ho, _⟩ := st
    rcases List.mem_cons.mp hb with rfl | hb
    · exact ⟨_, hE⟩
    · exact ⟨o, (List.mem_singleton.mp hb) ▸ ho⟩
  · obtain ⟨t', x, ⟨n, u, hn, rfl⟩, rfl⟩ := hp
    simp only [List.getElem?_map, Option.map_eq_some_iff] at hes
    obtain ⟨q, hq, rfl⟩ := hes
    rw [List.getElem?_zipIdx] at hq
    simp only [Option.map_eq_some_iff] at hq
    obtain ⟨n', hn', rfl⟩ := hq
    have : n' = n := by simpa [hn'] using hn
    subst this
    refine .cons ?_ (.cons (.str _ _) .nil)
    have : ((0 + i : Nat) : Int) = (i : Int) := by simp
    rw [this]; exact .int _ _
  · rcases List.mem_cons.mp hb with rfl | hb
    · exact n2
    · rw [List.mem_singleton.mp hb]; exact n1
  · rcases List.mem_cons.mp hb with rfl | hb
    · exact .head _
    · rw [List.mem_singleton.mp hb]; exact .tail _ (.head _)
end
end Mine
namespace Mine
/-- a zip of a text and a list -/
structure ZA (z TI TO i1 i2 l2 : Addr) : Prop where
  TIz : TI ≠ z
  TOz : TO ≠ z
  i1z : i1 ≠ z
  i2z : i2 ≠ z
  TITO : TI ≠ TO
  TIi1 : TI ≠ i1
  TIi2 : TI ≠ i2
  TOi1 : TO ≠ i1
  TOi2 : TO ≠ i2
  i12 : i1 ≠ i2
  l2z : l2 ≠ z
  l2TO : l2 ≠ TO
  l2i1 : l2 ≠ i1
  l2i2 : l2 ≠ i2
section
variable {prog : Program} {w : World} {A : Around} {E : Value → Shared → Prop} {s : Shared}
theorem SI.ext {h h' : Heap} {i a : Addr} {x : Str} {t : Tok} {k : Nat} (x1 : h.IsStrIter i "str_ascii_iterator" x t k) (hs : Heap.ExtBut a h h') (hne : i ≠ a) : h'.IsStrIter i "str_ascii_iterator" x t k :=
  let ⟨o, ho, r⟩ := x1; ⟨o, hs _ _ hne ho, r⟩
theorem SI.at {h h' : Heap} {i : Addr} {x : Str} {t : Tok} {k : Nat} (x1 : h.IsStrIter i "str_ascii_iterator" x t k) (hs : ∀ o, h.get? i = some o → h'.get? i = some o) : h'.IsStrIter i "str_ascii_iterator" x t k :=
  let ⟨o, ho, r⟩ := x1; ⟨o, hs _ ho, r⟩
theorem zs_item {z TI TO i1 i2 l2 : Addr} {k1 k2 : Nat} {xs : Str} {t : Tok} {ys : Array Value} {n : Nat} {y a b : Value} {Q : Value → Shared → Prop} (D : ZA z TI TO i1 i2 l2)
    (hz : IsZip s.heap z TI TO .none) (hTI : IsPair s.heap TI (.ref i1) (.ref i2)) (hTO : IsPair s.heap TO a b)
    (h1 : s.heap.IsStrIter i1 "str_ascii_iterator" xs t k1) (h2 : s.heap.IsListIter i2 l2 k2) (hl2 : s.heap.IsList l2 ys) (hx : xs.cps[k1]? = some n) (hy : ys[k2]? = some y)
    (hQ : ∀ u h' tk, IsZip h' z TI TO (rawInt s.heap.objs.size) → IsPair h' TO (.str ⟨#[n]⟩ u) y → h'.IsStrIter i1 "str_ascii_iterator" xs t (k1 + 1) → h'.IsListIter i2 l2 (k2 + 1) → IsPair h' s.heap.objs.size (.str ⟨#[n]⟩ u) y → h'.objs.size = s.heap.objs.size + 1 →
      (∀ c o, c ≠ z → c ≠ TO → c ≠ i1 → c ≠ i2 → s.heap.get? c = some o → h'.get? c = some o) → Q (.ref s.heap.objs.size) { s with heap := h', toks := tk }) :
    wpAny (model prog w) A (Builtin.«zip.__next__» ⟨[.ref z], []⟩) (fun fin s' => ∃ v, fin = .done (.ret v) ∧ Q v s') E s := by
  show wpAny _ _ (field (.ref z) 2 >>= _) _ _ _
  refine wpAny_bind (wpAny_field hz rfl (x := .bool false) rfl ?_)
  show wpAny _ _ (field (.ref z) 3 >>= _) _ _ _
  refine wpAny_bind (wpAny_field hz rfl (x := .ref TI) rfl ?_)
  refine wpAny_bind (wpAny_seqItems hTI rfl ?_)
  show wpAny _ _ (Builtin.SmallTypes.ownedTupleIsFree (.ref z) >>= _) _ _ _
  refine wpAny_bind ?_
  unfold Builtin.SmallTypes.ownedTupleIsFree
  refine wpAny_bind (wpAny_field hz rfl (x := .none) rfl (wpAny_pure ?_))
  simp only [if_true]
  refine wpAny_bind (wpAny_rule ?_)
  refine wpAny_bind (wpAny_field hz rfl (x := .ref TO) rfl ?_)
  refine wpAny_bind (wpAny_setField_rec hz (by simp) fun h₁ hz₁ hs₁ => ?_)
  replace hz₁ : IsZip h₁ z TI TO .ellipsis := hz₁
  refine wpAny_bind ?_
  simp only [List.zipIdx_cons, List.zipIdx_nil, List.forIn_cons, List.forIn_nil]
  -- the sign
  refine wpAny_bind (wpAny_bind (wpAny_onRaise ?_))
  show wpAny _ _ (Builtin.SmallTypes.nextOf (.ref i1) >>= _) _ _ _
  refine wpAny_bind (wpAny_nextOf_ascii_item (SI.ext h1 hs₁.extBut D.i1z) hx fun h₂ h1₂ hs₂ => wpAny_pure ?_)
  have hTO₂ : IsPair h₂ TO a b := hs₂.extBut _ _ D.TOi1 (hs₁.extBut _ _ D.TOz hTO)
  refine wpAny_bind (wpAny_seqItems hTO₂ rfl ?_)
  refine wpAny_bind (wpAny_updateSeq_pair hTO₂ fun h₃ hTO₃ hs₃ => ?_)
  refine wpAny_bind (wpAny_letGo (wpAny_pure ?_))
  -- the item
  refine wpAny_bind (wpAny_bind (wpAny_onRaise ?_))
  show wpAny _ _ (Builtin.SmallTypes.nextOf (.ref i2) >>= _) _ _ _
  refine wpAny_bind (wpAny_nextOf_list_item (((h2.extBut hs₁.extBut D.i2z).extBut hs₂.extBut D.i12.symm).extBut hs₃.extBut D.TOi2.symm)
    (((hl2.extBut hs₁.extBut D.l2z).extBut hs₂.extBut D.l2i1).extBut hs₃.extBut D.l2TO) hy fun h₄ h2₄ hs₄ => wpAny_pure ?_)
  have hTO₄ : IsPair h₄ TO (.str ⟨#[n]⟩ s.toks) b := hs₄.extBut _ _ D.TOi2 hTO₃
  refine wpAny_bind (wpAny_seqItems hTO₄ rfl ?_)
  refine wpAny_bind (wpAny_updateSeq_pair hTO₄ fun h₅ hTO₅ hs₅ => ?_)
  replace hTO₅ : IsPair h₅ TO (.str ⟨#[n]⟩ s.toks) y := hTO₅
  refine wpAny_bind (wpAny_letGo (wpAny_pure (wpAny_pure ?_)))
  refine wpAny_bind (wpAny_seqItems hTO₅ rfl ?_)
  refine wpAny_bind (wpAny_newTuple ?_)
  have hsz : h₅.objs.size = s.heap.objs.size := by rw [hs₅.1, hs₄.1, hs₃.1, hs₂.1, hs₁.1]
  have hz₅ : IsZip h₅ z TI TO .ellipsis := hs₅.extBut _ _ D.TOz.symm (hs₄.extBut _ _ D.i2z.symm (hs₃.extBut _ _ D.TOz.symm (hs₂.extBut _ _ D.i1z.symm hz₁)))
  have hk₅ : ∀ c o, c ≠ z → c ≠ TO → c ≠ i1 → c ≠ i2 → s.heap.get? c = some o → h₅.get? c = some o := fun c o c1 c2 c3 c4 e =>
    hs₅.extBut _ _ c2 (hs₄.extBut _ _ c4 (hs₃.extBut _ _ c2 (hs₂.extBut _ _ c3 (hs₁.extBut _ _ c1 e))))
  have h1₅ : h₅.IsStrIter i1 "str_ascii_iterator" xs t (k1 + 1) := SI.ext (SI.ext (SI.ext h1₂ hs₃.extBut D.TOi1.symm) hs₄.extBut D.i12) hs₅.extBut D.TOi1.symm
  have h2₅ : h₅.IsListIter i2 l2 (k2 + 1) := h2₄.extBut hs₅.extBut D.TOi2.symm
  have hzlt : z < h₅.objs.size := Heap.lt_size hz₅
  show wpAny _ _ (Builtin.SmallTypes.ownedTupleHandOut (.ref z) (.ref h₅.objs.size) >>= _) _ _ _
  refine wpAny_bind ?_
  unfold Builtin.SmallTypes.ownedTupleHandOut
  have hz₆ : IsZip (h₅.push { cls := .type "tuple", data := .seq #[.str ⟨#[n]⟩ s.toks, y] }) z TI TO .ellipsis := Heap.get?_push_of_some _ hz₅
  refine wpAny_bind (wpAny_setField_rec hz₆ (by simp) fun h₇ hz₇ hs₇ => ?_)
  replace hz₇ : IsZip h₇ z TI TO (rawInt h₅.objs.size) := hz₇
  refine wpAny_setField_rec hz₇ (by simp) fun h₈ hz₈ hs₈ => ?_
  replace hz₈ : IsZip h₈ z TI TO (rawInt h₅.objs.size) := hz₈
  have up : ∀ c o, c ≠ z → h₅.get? c = some o → h₈.get? c = some o := fun c o c1 e => hs₈.extBut _ _ c1 (hs₇.extBut _ _ c1 (Heap.get?_push_of_some _ e))
  have hT₈ : IsPair h₈ h₅.objs.size (.str ⟨#[n]⟩ s.toks) y := hs₈.extBut _ _ (Nat.ne_of_gt hzlt) (hs₇.extBut _ _ (Nat.ne_of_gt hzlt) (Heap.get?_push_size _ rfl))
  have hz8 : h₈.objs.size = h₅.objs.size + 1 := by rw [hs₈.1, hs₇.1, Heap.size_push]
  rw [hsz] at hz₈ hT₈ hz8
  refine wpAny_pure ⟨_, rfl, ?_⟩
  show Q (.ref h₅.objs.size) _
  rw [hsz]
  exact hQ _ h₈ _ hz₈ (up _ _ D.TOz hTO₅) (SI.at h1₅ fun o e => up _ o D.i1z e) (h2₅.at fun o e => up _ o D.i2z e) hT₈ hz8 fun c o c1 c2 c3 c4 e => up c o c1 (hk₅ c o c1 c2 c3 c4 e)
theorem zs_end {z TI TO i1 i2 l2 : Addr} {k1 : Nat} {xs : Str} {t : Tok} {a b : Value} {Q : Fin → Shared → Prop} (hh : A.handled = none) (D : ZA z TI TO i1 i2 l2)
    (hz : IsZip s.heap z TI TO .none) (hTI : IsPair s.heap TI (.ref i1) (.ref i2)) (hTO : IsPair s.heap TO a b)
    (h1 : s.heap.IsStrIter i1 "str_ascii_iterator" xs t k1) (hx : xs.cps[k1]? = none)
    (hE : ∀ h' e, (∀ c o, c ≠ z → c ≠ TO → c ≠ i1 → c ≠ i2 → s.heap.get? c = some o → h'.get? c = some o) → (∃ o, h'.get? e = some o ∧ o.cls = .type "StopIteration") → E (.ref e) { s with heap := h' }) :
    wpAny (model prog w) A (Builtin.«zip.__next__» ⟨[.ref z], []⟩) Q E s := by
  show wpAny _ _ (field (.ref z) 2 >>= _) _ _ _
  refine wpAny_bind (wpAny_field hz rfl (x := .bool false) rfl ?_)
  show wpAny _ _ (field (.ref z) 3 >>= _) _ _ _
  refine wpAny_bind (wpAny_field hz rfl (x := .ref TI) rfl ?_)
  refine wpAny_bind (wpAny_seqItems hTI rfl ?_)
  show wpAny _ _ (Builtin.SmallTypes.ownedTupleIsFree (.ref z) >>= _) _ _ _
  refine wpAny_bind ?_
  unfold Builtin.SmallTypes.ownedTupleIsFree
  refine wpAny_bind (wpAny_field hz rfl (x := .none) rfl (wpAny_pure ?_))
  simp only [if_true]
  refine wpAny_bind (wpAny_rule ?_)
  refine wpAny_bind (wpAny_field hz rfl (x := .ref TO) rfl ?_)
  refine wpAny_bind (wpAny_setField_rec hz (by simp) fun h₁ hz₁ hs₁ => ?_)
  replace hz₁ : IsZip h₁ z TI TO .ellipsis := hz₁
  refine wpAny_bind ?_
  simp only [List.zipIdx_cons, List.zipIdx_nil, List.forIn_cons, List.forIn_nil]
  refine wpAny_bind (wpAny_bind (wpAny_onRaise ?_))
  show wpAny _ _ (Builtin.SmallTypes.nextOf (.ref i1) >>= _) _ _ _
  refine wpAny_bind (wpAny_nextOf_ascii_end hh (SI.ext h1 hs₁.extBut D.i1z) hx fun h₂ e hs₂ he => ?_)
  obtain ⟨oe, hoe, hce⟩ := he
  have hz₂ : IsZip h₂ z TI TO .ellipsis := hs₂ _ _ D.i1z.symm hz₁
  have hez : e ≠ z := fun x => by subst x; rw [hz₂] at hoe; cases hoe; simp at hce
  refine wpAny_setField_rec hz₂ (by simp) fun h₃ _ hs₃ => hE h₃ e (fun c o c1 _ c3 _ x => hs₃.extBut _ _ c1 (hs₂ _ _ c3 (hs₁.extBut _ _ c1 x))) ⟨oe, hs₃.extBut _ _ hez hoe, hce⟩
end

theorem WalksT.zipS {prog : Program} {w : World} {A : Around} (hh : A.handled = none) (z TI TO i1 i2 l2 : Addr) (D : ZA z TI TO i1 i2 l2) (xs : Str) (t : Tok) (ys : Array Value) (hle : xs.cps.size ≤ ys.size) :
    WalksT prog w A z [z, TI, TO, i1, i2, l2] [z, TO, i1, i2] xs.cps.size (fun i vals => ∃ n u y, xs.cps[i]? = some n ∧ ys[i]? = some y ∧ vals = #[.str ⟨#[n]⟩ u, y])
      (fun i h => IsZip h z TI TO .none ∧ IsPair h TI (.ref i1) (.ref i2) ∧ (∃ a b, IsPair h TO a b) ∧ h.IsStrIter i1 "str_ascii_iterator" xs t i ∧ h.IsListIter i2 l2 i ∧ h.IsList l2 ys)
      (fun i T h => IsZip h z TI TO (rawInt T) ∧ IsPair h TI (.ref i1) (.ref i2) ∧ (∃ a b, IsPair h TO a b) ∧ h.IsStrIter i1 "str_ascii_iterator" xs t (i + 1) ∧ h.IsListIter i2 l2 (i + 1) ∧ h.IsList l2 ys ∧ T ≠ z ∧ T ≠ TO ∧ T ≠ i1 ∧ T ≠ i2) where
  sub := fun c hc => by simp at hc ⊢; rcases hc with rfl | rfl | rfl | rfl <;> simp
  frame := fun i h h' hst hk => by
    obtain ⟨hz, hTI, ⟨a, b, hTO⟩, h1, h2, hl2⟩ := hst
    exact ⟨hk z (by simp) _ hz, hk TI (by simp) _ hTI, ⟨a, b, hk TO (by simp) _ hTO⟩, SI.at h1 fun o e => hk i1 (by simp) o e, h2.at fun o e => hk i2 (by simp) o e, hl2.at fun o e => hk l2 (by simp) o e⟩
  item := fun i s Q E hi hst hQ => by
    obtain ⟨hz, hTI, ⟨a, b, hTO⟩, h1, h2, hl2⟩ := hst
    have hiy : i < ys.size := Nat.lt_of_lt_of_le hi hle
    have hT : s.TypeIs (.ref z) "zip" := ⟨_, hz, rfl⟩
    unfold pyNext
    refine wpAny_bind (wpAny_attempt (wpAny_callSpecial?_slot (name := Str.ofString "__next__") hT F.slot_zip_next
      (wpAny_call_entry F.slot_zip_next hT F.entry_zip_next (zs_item D hz hTI hTO h1 h2 hl2 (Array.getElem?_eq_getElem hi) (Array.getElem?_eq_getElem hiy) fun u h' tk a1 a2 a3 a4 a5 a6 hk => wpAny_pure ?_) (F.args_zip_next_1 _))))
    have lt : ∀ {c o}, s.heap.get? c = some o → s.heap.objs.size ≠ c := fun e => Nat.ne_of_gt (Heap.lt_size e)
    exact hQ s.heap.objs.size #[.str ⟨#[xs.cps[i]]⟩ u, ys[i]] h' tk ⟨_, _, _, Array.getElem?_eq_getElem hi, Array.getElem?_eq_getElem hiy, rfl⟩ (Nat.le_refl _) ⟨_, a5, rfl, _, rfl⟩
      ⟨a1, hk _ _ D.TIz D.TITO D.TIi1 D.TIi2 hTI, ⟨_, _, a2⟩, a3, a4, hl2.at fun o e => hk _ o D.l2z D.l2TO D.l2i1 D.l2i2 e,
        lt hz, lt hTO, (by obtain ⟨_, e, _⟩ := h1; exact lt e), (by obtain ⟨_, e, _⟩ := h2; exact lt e)⟩
      fun c o hc e => hk c o (fun x => hc (by simp [x])) (fun x => hc (by simp [x])) (fun x => hc (by simp [x])) (fun x => hc (by simp [x])) e
  go := fun elts k pos i T s Q E hm hQ => by
    obtain ⟨hz, hTI, ⟨a, b, hTO⟩, h1, h2, hl2, _⟩ := hm
    refine wpAny_letOwnedTupleGo_zip hz fun h' hz' hs' => hQ h' ⟨hz', hs'.extBut _ _ D.TIz hTI, ⟨a, b, hs'.extBut _ _ D.TOz hTO⟩, SI.ext h1 hs'.extBut D.i1z, h2.extBut hs'.extBut D.i2z,
      hl2.extBut hs'.extBut D.l2z⟩ fun c o hc e => hs'.extBut _ _ (fun x => hc (by simp [x])) e
  apart := fun i T h hm hT => by
    obtain ⟨_, _, _, _, _, _, t1, t2, t3, t4⟩ := hm
    simp at hT
    rcases hT with rfl | rfl | rfl | rfl
    · exact t1 rfl
    · exact t2 rfl
    · exact t3 rfl
    · exact t4 rfl
  done := fun s Q E hst hQ => by
    obtain ⟨hz, hTI, ⟨a, b, hTO⟩, h1, h2, hl2⟩ := hst
    have hT : s.TypeIs (.ref z) "zip" := ⟨_, hz, rfl⟩
    unfold pyNext
    refine wpAny_bind (wpAny_attempt (wpAny_callSpecial?_slot (name := Str.ofString "__next__") hT F.slot_zip_next
      (wpAny_call_entry F.slot_zip_next hT F.entry_zip_next (zs_end hh D hz hTI hTO h1 (by simp) fun h' e hk he => ?_) (F.args_zip_next_1 _))))
    obtain ⟨o, ho, hc⟩ := he
    refine wpAny_bind (wpAny_isInstance (T := "StopIteration") (b := true) ⟨o, ho, hc⟩ isSubtype_stop ?_)
    exact wpAny_pure (hQ h' s.toks fun c o hc e => hk c o (fun x => hc (by simp [x])) (fun x => hc (by simp [x])) (fun x => hc (by simp [x])) (fun x => hc (by simp [x])) e)
  self := fun i s Q E hst hQ => wpAny_pyIter_zip hst.1 hQ
noncomputable abbrev zs1 (h : Heap) (x : Str) (t : Tok) : Heap := h.push { cls := .type (strIterType x), data := .fields #[.str x t, .int 0 0] }
noncomputable abbrev zs2 (h : Heap) (x : Str) (t : Tok) (l2 : Addr) : Heap := (zs1 h x t).push { cls := .type "list_iterator", data := .fields #[.ref l2, .int 0 0] }
noncomputable abbrev zs3 (h : Heap) (x : Str) (t : Tok) (l2 : Addr) : Heap := (zs2 h x t l2).push { cls := .type "tuple", data := .seq #[.ref h.objs.size, .ref (zs1 h x t).objs.size] }
noncomputable abbrev zs4 (h : Heap) (x : Str) (t : Tok) (l2 : Addr) : Heap := (zs3 h x t l2).push { cls := .type "tuple", data := .seq #[.none, .none] }
noncomputable abbrev zs5 (h : Heap) (x : Str) (t : Tok) (l2 : Addr) : Heap := (zs4 h x t l2).push { cls := .type "zip", data := .fields #[.none, .bool false, .bool false, .ref (zs2 h x t l2).objs.size, .ref (zs3 h x t l2).objs.size] }
set_option maxHeartbeats 2000000 in
theorem zs_new (x : Str) (t : Tok) (l2 : Addr) (ys : Array Value) :
    Meets (Builtin.«zip.__new__» ⟨[.type "zip", .str x t, .ref l2], []⟩) (fun _ R s => s.heap.IsList l2 ys ∧ R (.ok (.ret (.ref (zs4 s.heap x t l2).objs.size))) { s with heap := zs5 s.heap x t l2 }) :=
  .of_wp fun prog w A R s h => by
    obtain ⟨hp, g, d, tk, os⟩ := s; obtain ⟨hl2, h⟩ := h
    have hsub := sub_zip
    have hL2 : Heap.IsList (Shared.heap ⟨hp.push { cls := .type (strIterType x), data := .fields #[.str x t, .int 0 0] }, g, d, tk, os⟩) l2 ys := Heap.IsList.push hl2 _
    wp_walk using wpAny_pyIter_strU, wpAny_pyIter_list hL2
    exact ⟨_, rfl, h⟩
theorem call_zipS {prog : Program} {w : World} {A : Around} {E : Value → Shared → Prop} {s : Shared} {x : Str} {t : Tok} {l2 : Addr} {ys : Array Value} {Q : Value → Shared → Prop} (ha : x.cps.all (· < 128) = true) (hl2 : s.heap.IsList l2 ys)
    (h : ∀ h', IsZip h' (s.heap.objs.size + 4) (s.heap.objs.size + 2) (s.heap.objs.size + 3) .none → IsPair h' (s.heap.objs.size + 2) (.ref s.heap.objs.size) (.ref (s.heap.objs.size + 1)) →
      IsPair h' (s.heap.objs.size + 3) .none .none → h'.IsStrIter s.heap.objs.size "str_ascii_iterator" x t 0 → h'.IsListIter (s.heap.objs.size + 1) l2 0 → h'.objs.size = s.heap.objs.size + 5 →
      (∀ c o, s.heap.get? c = some o → h'.get? c = some o) → Q (.ref (s.heap.objs.size + 4)) { s with heap := h' }) :
    wpAny (model prog w) A (call (.type "zip") [.str x t, .ref l2]) Q E s := by
  refine callType_new F.called_zip (by decide) (F.typeCall_zip_2 _ _) (F.newCall_zip_2 _ _) (fun obj => F.args_object_init_3 obj _ _) F.entry_zip_new (zs_new x t l2 ys) ⟨hl2, ?_⟩
  have z1 : (zs1 s.heap x t).objs.size = s.heap.objs.size + 1 := Heap.size_push ..
  have z2 : (zs2 s.heap x t l2).objs.size = s.heap.objs.size + 2 := by rw [Heap.size_push, z1]
  have z3 : (zs3 s.heap x t l2).objs.size = s.heap.objs.size + 3 := by rw [Heap.size_push, z2]
  have z4 : (zs4 s.heap x t l2).objs.size = s.heap.objs.size + 4 := by rw [Heap.size_push, z3]
  have z5 : (zs5 s.heap x t l2).objs.size = s.heap.objs.size + 5 := by rw [Heap.size_push, z4]
  have g5 : (zs5 s.heap x t l2).get? (zs4 s.heap x t l2).objs.size = some _ := Heap.get?_push_size _ rfl
  have g4 : (zs5 s.heap x t l2).get? (zs3 s.heap x t l2).objs.size = some _ := Heap.get?_push_of_some _ (Heap.get?_push_size _ rfl)
  have g3 : (zs5 s.heap x t l2).get? (zs2 s.heap x t l2).objs.size = some _ := Heap.get?_push_of_some _ (Heap.get?_push_of_some _ (Heap.get?_push_size _ rfl))
  have g2 : (zs5 s.heap x t l2).get? (zs1 s.heap x t).objs.size = some _ := Heap.get?_push_of_some _ (Heap.get?_push_of_some _ (Heap.get?_push_of_some _ (Heap.get?_push_size _ rfl)))
  have g1 : (zs5 s.heap x t l2).get? s.heap.objs.size = some _ := Heap.get?_push_of_some _ (Heap.get?_push_of_some _ (Heap.get?_push_of_some _ (Heap.get?_push_of_some _ (Heap.get?_push_size _ rfl))))
  show _ ∧ _
  rw [z2, z3, z4] at g5
  rw [z1, z2] at g3
  rw [z3] at g4
  rw [z1] at g2
  rw [z4]
  have hty : strIterType x = "str_ascii_iterator" := by unfold strIterType; rw [if_pos ha]
  rw [hty] at g1
  exact ⟨⟨_, g5, rfl⟩, h _ g5 g3 g4 ⟨_, g1, rfl, rfl⟩ ⟨_, g2, rfl, rfl⟩ z5 fun c o x =>
    Heap.get?_push_of_some _ (Heap.get?_push_of_some _ (Heap.get?_push_of_some _ (Heap.get?_push_of_some _ (Heap.get?_push_of_some _ x))))⟩
end Mine
namespace Mine
section
variable {c : Cx} {S : Scope} {κ : Option Kp} {σ σ1 σ2 σ3 : Sg} {ρ ρ1 ρ2 : Rho} {lv : List (Str × D)} {T : List (Value × D)} {s : Shared}

theorem above_none {h : Heap} {k : Nat} : h.get? (h.objs.size + k) = none := by
  cases q : h.get? (h.objs.size + k) with
  | none => rfl
  | some o' => exact absurd (Heap.lt_size q) (Nat.not_lt.mpr (Nat.le_add_right _ _))
theorem is_lst {Z : Kn} {v : Value} {ds : List D} (h : Is Z (.lst ds) v) : ∃ a vs o n, v = .ref a ∧ IsL Z ds vs ∧ Z a o ∧ o.cls = .type "list" ∧ o.data = .seq vs.toArray n := by
  cases h with
  | lst h hc hd hl => exact ⟨_, _, _, _, rfl, hl, h, hc, hd⟩

/-- zip of two lists -/
theorem EvIt.zip2 {elts : List Expr} {k : Nat} {tpos : Pos} {e1 e2 : Expr} {p pos : Pos} {ds es : List D} (g : Bt c.w "zip" (.type "zip")) (h1 : EvL c S κ σ ρ lv [e1, e2] σ1 [.lst ds, .lst es])
    (hk : ∀ L a ccd cl cn C kcl, (match κ with | .none => envX cn S L a ccd cl | .some k => compEnvC k.scope kcl C (envX cn S L a ccd cl)).kindOf "zip" = some .globalImplicit := by intros; rfl)
    (he : ∀ env, starEach [e1, e2] env = (false, eval e1 env) :: starEach [e2] env := by intro _; rfl) (hp : ∀ env pos, ((backTo pos (starEach [e2] env)).any fun x => x.1) = false := by intros; rfl) :
    EvIt c S κ σ ρ lv (.Tuple elts k tpos) (.Call (.Name "zip" p) [e1, e2] [] pos) σ1 (((ds.zip es).map fun q => [q.1, q.2]).map .tup) := fun T s Q F h => by
  have hk' : (envAt c S κ).kindOf "zip" = some .globalImplicit := by
    have := hk c.L c.a c.ccd c.cl c.cn
    cases κ with
    | none => exact this default default
    | some k => exact this k.C k.cl
  refine wpAny_Call_NameR (name_boot F g.at_ g.boot g.ne (PyProof.Rows.callWith_type1 (h1.2 T pos s _ F fun vs s1 hl F1 => ?_) (he _) (hp _ _)) hk' (by decide))
  obtain ⟨v1, v2, rfl⟩ := len2 hl
  have hh := handled F1
  obtain ⟨σo, Z, hσ, own, m, lm, F1⟩ := F1
  obtain ⟨a1, xs, o1, n1, rfl, hi1, hz1, hc1, hd1⟩ := is_lst (F1.tmp (v1, .lst ds) (.head _))
  obtain ⟨a2, ys, o2, n2, rfl, hi2, hz2, hc2, hd2⟩ := is_lst (F1.tmp (v2, .lst es) (.tail _ (.head _)))
  have g1 := (F1.core.zk _ _ hz1).1
  have g2 := (F1.core.zk _ _ hz2).1
  have L1 : s1.heap.IsList a1 xs.toArray := ⟨o1, g1, hc1, n1, hd1⟩
  have L2 : s1.heap.IsList a2 ys.toArray := ⟨o2, g2, hc2, n2, hd2⟩
  refine call_zip_2 L1 L2 fun h' z5 z3 z4 i1 i2 hsz k1 => ?_
  refine wpAny_pyIter_zip z5 ?_
  have l1 : (a1 : Nat) < (s1.heap.objs.size : Nat) := Heap.lt_size g1
  have l2 : (a2 : Nat) < (s1.heap.objs.size : Nat) := Heap.lt_size g2
  have le : ∀ a o, Z a o → Z a o ∨ (a = s1.heap.objs.size + 2 ∧ o = ({ cls := .type "tuple", data := .seq #[.ref s1.heap.objs.size, .ref (s1.heap.objs.size + 1)] } : Obj)) := fun _ _ h => .inl h
  have C1 := F1.core.learn (W := fun a o => a = s1.heap.objs.size + 2 ∧ o = { cls := .type "tuple", data := .seq #[.ref s1.heap.objs.size, .ref (s1.heap.objs.size + 1)] }) s1.toks k1 (by rintro a o ⟨rfl, rfl⟩; exact z3) (by rintro a o ⟨rfl, _⟩; exact above_none)
  have Dz : ZipApart (s1.heap.objs.size + 4) (s1.heap.objs.size + 2) (s1.heap.objs.size + 3) s1.heap.objs.size (s1.heap.objs.size + 1) a1 a2 := by
    constructor <;> (show (_ : Nat) ≠ _) <;> first | omega | exact Nat.ne_of_lt (Nat.lt_of_lt_of_le l1 (Nat.le_add_right _ _)) | exact Nat.ne_of_lt l1 | exact Nat.ne_of_lt (Nat.lt_of_lt_of_le l2 (Nat.le_add_right _ _)) | exact Nat.ne_of_lt l2
  have W := WalksT.zip2 (prog := PG) (w := c.w) (A := c.A) hh _ _ _ _ _ _ _ Dz xs.toArray ys.toArray
  rw [show min xs.toArray.size ys.toArray.size = ((ds.zip es).map fun q => [q.1, q.2]).length by simp [hi1.length, hi2.length]] at W
  refine h (s1.heap.objs.size + 4) _ _ _ { s1 with heap := h' } σo _ own m lm (hσ.mono le) ⟨C1, F1.fn, fun x b e => (F1.var x b e).mono le, fun x d e => (by obtain ⟨v, q, i⟩ := F1.lov x d e; exact ⟨v, q, i.mono le⟩), fun p hp => (F1.tmp p (List.mem_append_right _ hp)).mono le⟩ (Wk.ofWalksT W (fun i hp st b hb => ?_) fun i es' vals hes hp Z' hz' => ?_) ⟨z5, z3, ⟨_, _, z4⟩, i1, i2, L1.at fun o e => k1 _ o e, L2.at fun o e => k1 _ o e⟩
    ?_ fun b hb => ?_
  · obtain ⟨q1, q2, ⟨_, _, q3⟩, ⟨_, q4, _⟩, ⟨_, q5, _⟩, _⟩ := st
    simp only [List.mem_cons, List.not_mem_nil, or_false] at hb
    rcases hb with rfl | rfl | rfl | rfl
    · exact ⟨_, q1⟩
    · exact ⟨_, q3⟩
    · exact ⟨_, q4⟩
    · exact ⟨_, q5⟩
  · obtain ⟨x, y, hx, hy, rfl⟩ := hp
    simp only [List.getElem?_map, Option.map_eq_some_iff, List.getElem?_zip_eq_some] at hes
    obtain ⟨q, ⟨hq1, hq2⟩, rfl⟩ := hes
    obtain ⟨u1, hu1, hI1⟩ := hi1.get hq1
    obtain ⟨u2, hu2, hI2⟩ := hi2.get hq2
    have e1 : u1 = x := by simpa [hu1] using hx
    have e2 : u2 = y := by simpa [hu2] using hy
    subst e1 e2
    exact .cons (hI1.mono fun a o h => hz' a o (.inl h)) (.cons (hI2.mono fun a o h => hz' a o (.inl h)) .nil)
  · have hn : [s1.heap.objs.size + 4, s1.heap.objs.size + 3, s1.heap.objs.size, s1.heap.objs.size + 1].Nodup := by
      simp only [List.nodup_cons, List.mem_cons, List.not_mem_nil, or_false, not_or, not_false_eq_true, List.nodup_nil, and_true]
      refine ⟨⟨?_, ?_, ?_⟩, ⟨?_, ?_⟩, ?_⟩ <;> (show (_ : Nat) ≠ _) <;> omega
    have O := F1.core.offs (wr := [s1.heap.objs.size + 4, s1.heap.objs.size + 3, s1.heap.objs.size, s1.heap.objs.size + 1]) hn (fun b hb => by
      simp only [List.mem_cons, List.not_mem_nil, or_false] at hb
      rcases hb with rfl | rfl | rfl | rfl
      · exact above_none
      · exact above_none
      · exact size_none _
      · exact above_none)
    refine ⟨hn, fun b hb => ?_⟩
    obtain ⟨q1, q2, q3, q4, q5, q6⟩ := O.2 b hb
    refine ⟨q1, q2, q3, q4, fun o hz => ?_, q6⟩
    rcases hz with hz | ⟨rfl, _⟩
    · exact q5 o hz
    · simp only [List.mem_cons, List.not_mem_nil, or_false] at hb
      rcases hb with h | h | h | h <;> (change (_ : Nat) = _ at h; omega)
  · simp only [List.mem_cons, List.not_mem_nil, or_false] at hb ⊢
    rcases hb with h | h | h | h | h | h | h
    · exact .inl (.inl h)
    · exact .inr ⟨_, .inr ⟨h, rfl⟩⟩
    · exact .inl (.inr (.inl h))
    · exact .inl (.inr (.inr (.inl h)))
    · exact .inl (.inr (.inr (.inr h)))
    · exact .inr ⟨o1, .inl (h ▸ hz1)⟩
    · exact .inr ⟨o2, .inl (h ▸ hz2)⟩
/-- zip of a text and a list -/
theorem EvIt.zipS {elts : List Expr} {k : Nat} {tpos : Pos} {e1 e2 : Expr} {p pos : Pos} {ks : List Nat} {es : List D} (g : Bt c.w "zip" (.type "zip")) (ha : ks.all (· < 128) = true) (hle : ks.length ≤ es.length) (h1 : EvL c S κ σ ρ lv [e1, e2] σ1 [.str (txt ks), .lst es])
    (hk : ∀ L a ccd cl cn C kcl, (match κ with | .none => envX cn S L a ccd cl | .some k => compEnvC k.scope kcl C (envX cn S L a ccd cl)).kindOf "zip" = some .globalImplicit := by intros; rfl)
    (he : ∀ env, starEach [e1, e2] env = (false, eval e1 env) :: starEach [e2] env := by intro _; rfl) (hp : ∀ env pos, ((backTo pos (starEach [e2] env)).any fun x => x.1) = false := by intros; rfl) :
    EvIt c S κ σ ρ lv (.Tuple elts k tpos) (.Call (.Name "zip" p) [e1, e2] [] pos) σ1 (((ks.zip es).map fun q => [D.str ⟨#[q.1]⟩, q.2]).map .tup) := fun T s Q F h => by
  have hk' : (envAt c S κ).kindOf "zip" = some .globalImplicit := by
    have := hk c.L c.a c.ccd c.cl c.cn
    cases κ with
    | none => exact this default default
    | some k => exact this k.C k.cl
  refine wpAny_Call_NameR (name_boot F g.at_ g.boot g.ne (PyProof.Rows.callWith_type1 (h1.2 T pos s _ F fun vs s1 hl F1 => ?_) (he _) (hp _ _)) hk' (by decide))
  obtain ⟨v1, v2, rfl⟩ := len2 hl
  have hh := handled F1
  obtain ⟨t, rfl⟩ := F1.isStr (.head _)
  obtain ⟨σo, Z, hσ, own, m, lm, F1⟩ := F1
  obtain ⟨a2, ys, o2, n2, rfl, hi2, hz2, hc2, hd2⟩ := is_lst (F1.tmp (v2, .lst es) (.tail _ (.head _)))
  have g2 := (F1.core.zk _ _ hz2).1
  have L2 : s1.heap.IsList a2 ys.toArray := ⟨o2, g2, hc2, n2, hd2⟩
  refine call_zipS (by simpa using ha) L2 fun h' z5 z3 z4 i1 i2 hsz k1 => ?_
  refine wpAny_pyIter_zip z5 ?_
  have l2 : (a2 : Nat) < (s1.heap.objs.size : Nat) := Heap.lt_size g2
  have le : ∀ a o, Z a o → Z a o ∨ (a = s1.heap.objs.size + 2 ∧ o = ({ cls := .type "tuple", data := .seq #[.ref s1.heap.objs.size, .ref (s1.heap.objs.size + 1)] } : Obj)) := fun _ _ h => .inl h
  have C1 := F1.core.learn (W := fun a o => a = s1.heap.objs.size + 2 ∧ o = { cls := .type "tuple", data := .seq #[.ref s1.heap.objs.size, .ref (s1.heap.objs.size + 1)] }) s1.toks k1 (by rintro a o ⟨rfl, rfl⟩; exact z3) (by rintro a o ⟨rfl, _⟩; exact above_none)
  have Dz : ZA (s1.heap.objs.size + 4) (s1.heap.objs.size + 2) (s1.heap.objs.size + 3) s1.heap.objs.size (s1.heap.objs.size + 1) a2 := by
    constructor <;> (show (_ : Nat) ≠ _) <;> first | omega | exact Nat.ne_of_lt (Nat.lt_of_lt_of_le l2 (Nat.le_add_right _ _)) | exact Nat.ne_of_lt l2
  have W := WalksT.zipS (prog := PG) (w := c.w) (A := c.A) hh _ _ _ _ _ _ Dz (txt ks) t ys.toArray (by simp [hi2.length]; exact hle)
  rw [show (txt ks).cps.size = ((ks.zip es).map fun q => [D.str ⟨#[q.1]⟩, q.2]).length by simp; omega] at W
  refine h (s1.heap.objs.size + 4) _ _ _ { s1 with heap := h' } σo _ own m lm (hσ.mono le) ⟨C1, F1.fn, fun x b e => (F1.var x b e).mono le, fun x d e => (by obtain ⟨v, q, i⟩ := F1.lov x d e; exact ⟨v, q, i.mono le⟩), fun p hp => (F1.tmp p (List.mem_append_right _ hp)).mono le⟩ (Wk.ofWalksT W (fun i hp st b hb => ?_) fun i es' vals hes hp Z' hz' => ?_) ⟨z5, z3, ⟨_, _, z4⟩, i1, i2, L2.at fun o e => k1 _ o e⟩
    ?_ fun b hb => ?_
  · obtain ⟨q1, q2, ⟨_, _, q3⟩, ⟨_, q4, _⟩, ⟨_, q5, _⟩, _⟩ := st
    simp only [List.mem_cons, List.not_mem_nil, or_false] at hb
    rcases hb with rfl | rfl | rfl | rfl
    · exact ⟨_, q1⟩
    · exact ⟨_, q3⟩
    · exact ⟨_, q4⟩
    · exact ⟨_, q5⟩
  · obtain ⟨n, u, y, hx, hy, rfl⟩ := hp
    simp only [List.getElem?_map, Option.map_eq_some_iff, List.getElem?_zip_eq_some] at hes
    obtain ⟨q, ⟨hq1, hq2⟩, rfl⟩ := hes
    obtain ⟨u2, hu2, hI2⟩ := hi2.get hq2
    have e1 : q.1 = n := by simpa [hq1] using hx
    have e2 : u2 = y := by simpa [hu2] using hy
    subst e2
    rw [e1]
    exact .cons (.str _ _) (.cons (hI2.mono fun a o h => hz' a o (.inl h)) .nil)
  · have hn : [s1.heap.objs.size + 4, s1.heap.objs.size + 3, s1.heap.objs.size, s1.heap.objs.size + 1].Nodup := by
      simp only [List.nodup_cons, List.mem_cons, List.not_mem_nil, or_false, not_or, not_false_eq_true, List.nodup_nil, and_true]
      refine ⟨⟨?_, ?_, ?_⟩, ⟨?_, ?_⟩, ?_⟩ <;> (show (_ : Nat) ≠ _) <;> omega
    have O := F1.core.offs (wr := [s1.heap.objs.size + 4, s1.heap.objs.size + 3, s1.heap.objs.size, s1.heap.objs.size + 1]) hn (fun b hb => by
      simp only [List.mem_cons, List.not_mem_nil, or_false] at hb
      rcases hb with rfl | rfl | rfl | rfl
      · exact above_none
      · exact above_none
      · exact size_none _
      · exact above_none)
    refine ⟨hn, fun b hb => ?_⟩
    obtain ⟨q1, q2, q3, q4, q5, q6⟩ := O.2 b hb
    refine ⟨q1, q2, q3, q4, fun o hz => ?_, q6⟩
    rcases hz with hz | ⟨rfl, _⟩
    · exact q5 o hz
    · simp only [List.mem_cons, List.not_mem_nil, or_false] at hb
      rcases hb with h | h | h | h <;> (change (_ : Nat) = _ at h; omega)
  · simp only [List.mem_cons, List.not_mem_nil, or_false] at hb ⊢
    rcases hb with h | h | h | h | h | h
    · exact .inl (.inl h)
    · exact .inr ⟨_, .inr ⟨h, rfl⟩⟩
    · exact .inl (.inr (.inl h))
    · exact .inl (.inr (.inr (.inl h)))
    · exact .inl (.inr (.inr (.inr h)))
    · exact .inr ⟨o2, .inl (h ▸ hz2)⟩
end
end Mine
namespace Mine
section
variable {c : Cx} {S : Scope} {κ : Option Kp} {σ σ1 σ2 σ3 : Sg} {ρ ρ1 ρ2 : Rho} {lv : List (Str × D)} {T : List (Value × D)} {s : Shared}

/-- the order in which things are told is free -/
theorem Core.order {σ σ' : Led} {Z : Kn} {own : Own} {m lm : Str → Option Value} (C : Core c κ σ Z own m lm s) (hm : ∀ p, p ∈ σ' ↔ p ∈ σ) (hp : σ'.Pairwise (fun p q => p.1 ≠ q.1)) : Core c κ σ' Z own m lm s := by
  obtain ⟨d1, d2, d3⟩ := List.pairwise_append.mp C.dj
  refine ⟨C.ok, C.sh, C.fr, fun p h => C.sg p ((hm p).mp h), C.ow, List.pairwise_append.mpr ⟨d1, hp, fun p h q h' => d3 p h q ((hm q).mp h')⟩, fun a o hz => ?_, C.z0, fun k e => ?_⟩
  · have zk := C.zk a o hz
    exact ⟨zk.1, zk.2.1, zk.2.2.1, fun p h => zk.2.2.2.1 p ((hm p).mp h), zk.2.2.2.2⟩
  · obtain ⟨h1, h2, h3, h4, h5⟩ := C.kp k e
    exact ⟨h1, h2, h3, fun p h => h4 p ((hm p).mp h), h5⟩
theorem Core.front {pre post : Led} {x : Addr × Obj} {Z : Kn} {own : Own} {m lm : Str → Option Value} (C : Core c κ (pre ++ x :: post) Z own m lm s) : Core c κ (x :: (pre ++ post)) Z own m lm s := by
  refine C.order (fun p => by simp only [List.mem_cons, List.mem_append]; exact ⟨fun h => by rcases h with h | h | h <;> simp_all, fun h => by rcases h with h | h | h <;> simp_all⟩) ?_
  obtain ⟨d1, d2, d3⟩ := List.pairwise_append.mp C.dj
  obtain ⟨d4, d5, d6⟩ := List.pairwise_append.mp d2
  obtain ⟨d7, d8⟩ := List.pairwise_cons.mp d5
  refine List.pairwise_cons.mpr ⟨fun p hp => ?_, List.pairwise_append.mpr ⟨d4, d8, fun p hp q hq => d6 p hp q (.tail _ hq)⟩⟩
  rcases List.mem_append.mp hp with hp | hp
  · exact (d6 p hp _ (.head _)).symm
  · exact d7 p hp
theorem Core.middle {pre post : Led} {x : Addr × Obj} {Z : Kn} {own : Own} {m lm : Str → Option Value} (C : Core c κ (x :: (pre ++ post)) Z own m lm s) : Core c κ (pre ++ x :: post) Z own m lm s := by
  refine C.order (fun p => by simp only [List.mem_cons, List.mem_append]; exact ⟨fun h => by rcases h with h | h | h <;> simp_all, fun h => by rcases h with h | h | h <;> simp_all⟩) ?_
  obtain ⟨d1, d2, d3⟩ := List.pairwise_append.mp C.dj
  obtain ⟨d4, d5⟩ := List.pairwise_cons.mp d2
  obtain ⟨d6, d7, d8⟩ := List.pairwise_append.mp d5
  refine List.pairwise_append.mpr ⟨d6, List.pairwise_cons.mpr ⟨fun p hp => d4 p (List.mem_append_right _ hp), d7⟩, fun p hp q hq => ?_⟩
  rcases List.mem_cons.mp hq with rfl | hq
  · exact (d4 p (List.mem_append_left _ hp)).symm
  · exact d8 p hp q hq
/-- a thing that is told turns -/
theorem Core.midSet {pre post : Led} {a : Addr} {o o' : Obj} {Z : Kn} {own : Own} {m lm : Str → Option Value} (C : Core c κ (pre ++ (a, o) :: post) Z own m lm s) {h' : Heap} (tk : Nat) (ho : h'.get? a = some o')
    (k : ∀ b ob, b ≠ a → s.heap.get? b = some ob → h'.get? b = some ob) : Core c κ (pre ++ (a, o') :: post) Z own m lm { s with heap := h', toks := tk } := (C.front.headSet tk ho k).middle
/-- a fresh thing that will turn -/
theorem Core.newHead {σ : Led} {a : Addr} {o : Obj} {Z : Kn} {own : Own} {m lm : Str → Option Value} (C : Core c κ σ Z own m lm s) {h' : Heap} (tk : Nat) (ha : s.heap.get? a = none) (ho : h'.get? a = some o) (k : ∀ b ob, s.heap.get? b = some ob → h'.get? b = some ob) :
    Core c κ ((a, o) :: σ) Z own m lm { s with heap := h', toks := tk } := by
  have O := C.off1 ha
  obtain ⟨q1, q2, q3, q4, q5, q6⟩ := O.2 a (.head _)
  have C' := C.grow tk k
  obtain ⟨d1, d2, d3⟩ := List.pairwise_append.mp C.dj
  refine ⟨C'.ok, C'.sh, C'.fr, fun p hp => ?_, C'.ow, List.pairwise_append.mpr ⟨d1, List.pairwise_cons.mpr ⟨fun p hp => q4 p hp, d2⟩, fun p hp q hq => ?_⟩, fun b ob hz => ?_, C'.z0, fun kk e => ?_⟩
  · rcases List.mem_cons.mp hp with rfl | hp
    · exact ⟨ho, q1, q2⟩
    · exact C'.sg p hp
  · rcases List.mem_cons.mp hq with rfl | hq
    · obtain ⟨r, hr, rfl⟩ := List.mem_map.mp hp
      exact (q3 r hr).symm
    · exact d3 p hp q hq
  · have zk := C'.zk b ob hz
    refine ⟨zk.1, zk.2.1, zk.2.2.1, fun p hp => ?_, zk.2.2.2.2⟩
    rcases List.mem_cons.mp hp with rfl | hp
    · exact fun e => q5 ob (show Z a ob from (show b = a from e) ▸ hz)
    · exact zk.2.2.2.1 p hp
  · obtain ⟨h1, h2, h3, h4, h5, h6⟩ := C'.kp kk e
    refine ⟨h1, h2, h3, fun p hp => ?_, h5, h6⟩
    rcases List.mem_cons.mp hp with rfl | hp
    · exact (q6 kk e).symm
    · exact h4 p hp

/-- the source's dict -/
noncomputable def Src (w : World) (a b : Int) : SO := ⟨fun _ o => ∃ t u, o.IsDictOf (strKind PG w) [(("figures" : Str), .int a t), (("stir" : Str), .int b u)], fun _ h => h⟩
theorem Rl.at {Z : Kn} {a : Addr} {P : SO} {l : Led} {σ1 σ2 : Sg} (h : Rl Z (σ1 ++ (a, P) :: σ2) l) : ∃ l1 l2 o, l = l1 ++ (a, o) :: l2 ∧ P.P Z o ∧ Rl Z σ1 l1 ∧ Rl Z σ2 l2 := by
  obtain ⟨l1, l3, rfl, h1, h3⟩ := h.split
  cases h3 with
  | cons ho h2 => exact ⟨_, _, _, rfl, ho, h1, h2⟩
theorem Rl.join {Z : Kn} {a : Addr} {P : SO} {o : Obj} {l1 l2 : Led} {σ1 σ2 : Sg} (ho : P.P Z o) (h1 : Rl Z σ1 l1) (h2 : Rl Z σ2 l2) : Rl Z (σ1 ++ (a, P) :: σ2) (l1 ++ (a, o) :: l2) := Rl.app (.cons ho h2) h1

theorem src_get {w : World} {a b : Int} {o : Obj} {d : Addr} {h : Heap} {t u : Tok} (ho : h.get? d = some o) (hd : o.IsDictOf (strKind PG w) [(("figures" : Str), .int a t), (("stir" : Str), .int b u)]) : h.DictOf (strKind PG w) d [(("figures" : Str), .int a t), (("stir" : Str), .int b u)] := Heap.dictOf_iff.mpr ⟨o, ho, hd⟩
theorem Ev.srcGet1 {value : Expr} {kp pos : Pos} {kk : Nat} {sd : Addr} {a b : Int} (h1 : Ev c S κ σ ρ lv value (σ1 ++ (sd, Src c.w a b) :: σ2) (.val (.ref sd)))
    (hs : ∀ o i, subscripted (.Constant (.str "figures") kk kp) false o i = operate [o, i] (getItem o i) := by intros; with_unfolding_all rfl) :
    Ev c S κ σ ρ lv (.Subscript value (.Constant (.str "figures") kk kp) pos) (σ1 ++ (sd, Src c.w a b) :: σ2) (.int a) := fun T s Q F h => by
  refine Subscript_ (h1 T s _ F fun v s1 F1 => wpAny_Constant_str ?_)
  obtain rfl := F1.isVal (.head _)
  have F0 := F1
  obtain ⟨σo, Z, hσ, own, m, lm, F1⟩ := F1
  obtain ⟨l1, l2, o, rfl, ⟨t, u, ho⟩, _, _⟩ := hσ.at
  have hd := src_get (F1.core.sg (sd, o) (List.mem_append_right _ (.head _))).1 ho
  refine tail_any (T := "dict") (s := { s1 with toks := _ }) hd.typeIs slot_dict_getitem.lookup (wpAny_getItem_of (s := { s1 with toks := _ }) (strKind_is _ _ _ _) hd.mapOf (v := .int a t) rfl (h _ _ ?_)) (hs _ _)
  exact (F0.drop1.tick _).push fun _ => .int _ _
theorem Ev.srcGet2 {value : Expr} {kp pos : Pos} {kk : Nat} {sd : Addr} {a b : Int} (h1 : Ev c S κ σ ρ lv value (σ1 ++ (sd, Src c.w a b) :: σ2) (.val (.ref sd)))
    (hs : ∀ o i, subscripted (.Constant (.str "stir") kk kp) false o i = operate [o, i] (getItem o i) := by intros; with_unfolding_all rfl) :
    Ev c S κ σ ρ lv (.Subscript value (.Constant (.str "stir") kk kp) pos) (σ1 ++ (sd, Src c.w a b) :: σ2) (.int b) := fun T s Q F h => by
  refine Subscript_ (h1 T s _ F fun v s1 F1 => wpAny_Constant_str ?_)
  obtain rfl := F1.isVal (.head _)
  have F0 := F1
  obtain ⟨σo, Z, hσ, own, m, lm, F1⟩ := F1
  obtain ⟨l1, l2, o, rfl, ⟨t, u, ho⟩, _, _⟩ := hσ.at
  have hd := src_get (F1.core.sg (sd, o) (List.mem_append_right _ (.head _))).1 ho
  refine tail_any (T := "dict") (s := { s1 with toks := _ }) hd.typeIs slot_dict_getitem.lookup (wpAny_getItem_of (s := { s1 with toks := _ }) (strKind_is _ _ _ _) hd.mapOf (v := .int b u) rfl (h _ _ ?_)) (hs _ _)
  exact (F0.drop1.tick _).push fun _ => .int _ _

theorem asg_sub {M : Model} {A : Around} {E : Value → Shared → Prop} {env : Env} {o i : Expr} {pos : Pos} {v : Value} {Q : Unit → Shared → Prop}
    (h : wpAny M A (eval o env) (fun ov s2 => wpAny M A (eval i env) (fun iv s3 => wpAny M A (setItem ov iv v) Q E s3) E s2) E s) : wpAny M A (assign (.Subscript o i pos) env v) Q E s := by
  rw [assign_Subscript]
  refine wpAny_bind (wpAny_holding (wpAny_mono h (fun ov s2 h2 => wpAny_bind (wpAny_holding (wpAny_mono h2 (fun iv s3 h3 => wpAny_bind (wpAny_standAt (wpAny_bind (wpAny_holding (wpAny_mono h3 (fun _ s4 h4 => wpAny_release h4) fun _ _ e => e))))) fun _ _ e => e))) fun _ _ e => e))

/-- the dict's own turn -/
theorem src_set1 {sd : Addr} {a b a' : Int} {v : Value} {Q : Unit → Shared → Prop} {tkk : Tok} (F : Fs c S κ (σ1 ++ (sd, Src c.w a b) :: σ2) ρ lv ((v, .int a') :: T) s) (h : ∀ s', Fs c S κ (σ1 ++ (sd, Src c.w a' b) :: σ2) ρ lv T s' → Q () s') :
    wpAny (model PG c.w) c.A (setItem (.ref sd) (.str "figures" tkk) v) Q NoE s := by
  obtain ⟨t', rfl⟩ := F.isInt (.head _)
  obtain ⟨σo, Z, hσ, own, m, lm, F⟩ := F
  obtain ⟨l1, l2, o, rfl, ⟨t, u, ho⟩, r1, r2⟩ := hσ.at
  have hd := src_get (F.core.sg (sd, o) (List.mem_append_right _ (.head _))).1 ho
  refine wpAny_setItem_pairs (strKind_is _ _ _ _) hd (fun h' hd' hsb => ?_) (by rw [sizeLine_eq]; simp)
  obtain ⟨o', ho', hi'⟩ := Heap.dictOf_iff.mp hd'
  refine h _ ⟨_, Z, Rl.join ⟨t', u, hi'⟩ r1 r2, own, m, lm, F.core.midSet (s.toks + 1) ho' fun b ob hb e => (hsb.2 b hb).trans e, F.fn, F.var, F.lov, fun p hp => F.tmp p (.tail _ hp)⟩
theorem src_set2 {sd : Addr} {a b b' : Int} {v : Value} {Q : Unit → Shared → Prop} {tkk : Tok} (F : Fs c S κ (σ1 ++ (sd, Src c.w a b) :: σ2) ρ lv ((v, .int b') :: T) s) (h : ∀ s', Fs c S κ (σ1 ++ (sd, Src c.w a b') :: σ2) ρ lv T s' → Q () s') :
    wpAny (model PG c.w) c.A (setItem (.ref sd) (.str "stir" tkk) v) Q NoE s := by
  obtain ⟨t', rfl⟩ := F.isInt (.head _)
  obtain ⟨σo, Z, hσ, own, m, lm, F⟩ := F
  obtain ⟨l1, l2, o, rfl, ⟨t, u, ho⟩, r1, r2⟩ := hσ.at
  have hd := src_get (F.core.sg (sd, o) (List.mem_append_right _ (.head _))).1 ho
  refine wpAny_setItem_pairs (strKind_is _ _ _ _) hd (fun h' hd' hsb => ?_) (by rw [sizeLine_eq]; simp)
  obtain ⟨o', ho', hi'⟩ := Heap.dictOf_iff.mp hd'
  refine h _ ⟨_, Z, Rl.join ⟨t, t', hi'⟩ r1 r2, own, m, lm, F.core.midSet (s.toks + 1) ho' fun b ob hb e => (hsb.2 b hb).trans e, F.fn, F.var, F.lov, fun p hp => F.tmp p (.tail _ hp)⟩
/-- source['stir'] = e -/
theorem Ex.srcSet {o e : Expr} {kp ip pos : Pos} {kk : Nat} {sd : Addr} {a b b' : Int} {rest : List Stmt} {P : Flow → Shared → Prop} (h1 : Ev c S .none σ ρ [] e (σ1 ++ (sd, Src c.w a b) :: σ2) (.int b')) (ho : Ev c S .none (σ1 ++ (sd, Src c.w a b) :: σ2) ρ [] o (σ1 ++ (sd, Src c.w a b) :: σ2) (.val (.ref sd)))
    (h2 : Ex c S (σ1 ++ (sd, Src c.w a b') :: σ2) ρ rest P) (hs : ∀ env, swapsWith e (some (.Subscript o (.Constant (.str "stir") kk kp) ip)) pos.line env = pure false := by intro _; rfl) :
    Ex c S σ ρ (.Assign [.Subscript o (.Constant (.str "stir") kk kp) ip] e pos :: rest) P := Ex.step fun s F =>
  wpAny_Assign_Subscript (h1 [] s _ F fun v s1 F1 => ho _ s1 _ F1 fun ov s2 F2 => by
    obtain rfl := F2.isVal (.head _)
    refine wpAny_Constant_str (src_set2 (T := []) ((F2.drop1).tick _) fun s3 F3 => h2 s3 F3)) (hs _)
/-- source['figures'], x = e1, e2 -/
theorem Ex.srcSet2 {o e : Expr} {y : Str} {kp ip py tp pos : Pos} {kk k : Nat} {sd : Addr} {a b a' : Int} {d2 : D} {rest : List Stmt} {P : Flow → Shared → Prop} (h1 : Ev c S .none σ ρ [] e (σ1 ++ (sd, Src c.w a b) :: σ2) (.tup [.int a', d2])) (ho : Ev c S .none (σ1 ++ (sd, Src c.w a b) :: σ2) ρ [] o (σ1 ++ (sd, Src c.w a b) :: σ2) (.val (.ref sd)))
    (h2 : Ex c S (σ1 ++ (sd, Src c.w a' b) :: σ2) ((y, .val d2) :: ρ) rest P) (hy : S.names.lookup y = some .local := by rfl)
    (hs : swapsWithSole [.Tuple [.Subscript o (.Constant (.str "figures") kk kp) ip, .Name y py] k tp] e pos.line (envAt c S .none) = pure false := by rfl) (hw : swappedStores [.Tuple [.Subscript o (.Constant (.str "figures") kk kp) ip, .Name y py] k tp] e (envAt c S .none) = pure none := by rfl) :
    Ex c S σ ρ (.Assign [.Tuple [.Subscript o (.Constant (.str "figures") kk kp) ip, .Name y py] k tp] e pos :: rest) P := Ex.step fun s F =>
  Assign_Tuple (h1 [] s _ F fun v s1 F1 => by
    obtain ⟨x, vs, rfl, hl, ht, F2⟩ := F1.openTup (.head _)
    obtain ⟨v1, v2, rfl⟩ := len2 hl
    refine wpAny_bind (wpAny_standAt (unpack_tuple (items := #[v1, v2]) (handled F) ht rfl rfl fun h' hk => ?_))
    have F3 := F2.grow (h' := h') s1.toks fun b o e => hk b o (Nat.ne_of_lt (Heap.lt_size e)) e
    refine assignInOrder_cons (asg_sub (ho [(v1, .int a'), (v2, d2)] _ _ (F3.temps ?_) fun ov s4 F4 => ?_))
    · intro p hp
      rcases List.mem_cons.mp hp with rfl | hp
      · exact .head _
      · rcases List.mem_cons.mp hp with rfl | hp
        · exact .tail _ (.head _)
        · cases hp
    · obtain rfl := F4.isVal (.head _)
      refine wpAny_Constant_str (src_set1 (T := [(v2, d2)]) ((F4.drop1).tick _) fun s5 F5 => ?_)
      exact assignInOrder_cons (wpAny_assign_Name (store_val (T := []) F5.toH hy fun s6 F6 => assignInOrder_nil (h2 _ F6.toFs)))) hs hw

/-- an expression whose end is told by Post -/
noncomputable def EvG (c : Cx) (S : Scope) (κ : Option Kp) (σ : Sg) (ρ : Rho) (lv : List (Str × D)) (e : Expr) (Post : Sg → D → Prop) : Prop :=
  ∀ T s Q, Fs c S κ σ ρ lv T s → (∀ v s' σ' d, Post σ' d → Fs c S κ σ' ρ lv ((v, d) :: T) s' → Q v s') → wpAny (model PG c.w) c.A (eval e (envAt c S κ)) Q NoE s
theorem EvG.call {Post : Sg → D → Prop} {f : Value} {need : Nat} {x : Str} {p pos : Pos} {e : Expr} {es : List Expr} {ds : List D} (g : Gl c.w x f) (h1 : EvL c S κ σ ρ lv (e :: es) σ1 ds) (hf : FnG c.w f need ds σ1 Post) (hr : need ≤ c.room)
    (hk : ∀ L a ccd cl cn C kcl, (match κ with | .none => envX cn S L a ccd cl | .some k => compEnvC k.scope kcl C (envX cn S L a ccd cl)).kindOf x = some .globalImplicit := by intros; rfl) (hd : (x == ("__debug__" : Str)) = false := by decide)
    (he : ∀ env, starEach (e :: es) env = (false, eval e env) :: starEach es env := by intro _; rfl) (hp : ∀ env pos, ((backTo pos (starEach es env)).any fun x => x.1) = false := by intros; rfl) :
    EvG c S κ σ ρ lv (.Call (.Name x p) (e :: es) [] pos) Post := fun T s Q F h => by
  have hk' : (envAt c S κ).kindOf x = some .globalImplicit := by
    have := hk c.L c.a c.ccd c.cl c.cn
    cases κ with
    | none => exact this default default
    | some k => exact this k.C k.cl
  refine wpAny_Call_NameR (name_glob F g.at_ (callWith_K F.K g.keep ?_ (he _) (hp _ _)) hk' hd)
  refine h1.2 T pos s _ F fun vs s1 hl F1 => ⟨F1.K, wpAny_call ?_⟩
  have ok := F1.ok
  exact hf c S κ ρ lv T vs s1 c.A _ rfl ok.handled (by have := ok.depth; omega) (by have := ok.units; omega) hl F1 fun v s2 σ' d hp F2 => h v s2 σ' d hp F2
theorem Ex.retG {Post : Sg → D → Prop} {e : Expr} {pos : Pos} {rest : List Stmt} (h1 : EvG c S .none σ ρ [] e Post) : Ex c S σ ρ (.Return (some e) pos :: rest) (RtG c S Post) := fun s F =>
  wpAny_execs_cons (wpAny_Return_some (h1 [] s _ F fun v s1 σ' d hp F1 => ⟨σ', d, hp, F1.weaken (fun _ _ e => by cases e) (fun _ _ e => by cases e) fun p hp => hp⟩))
theorem Ex.assignG {Post : Sg → D → Prop} {x : Str} {e : Expr} {p' pos : Pos} {rest : List Stmt} {P : Flow → Shared → Prop} (h1 : EvG c S .none σ ρ [] e Post) (h2 : ∀ σ' d, Post σ' d → Ex c S σ' ((x, .val d) :: ρ) rest P)
    (hk : Sto S x ρ) (hs : ∀ env, swapsWith e (some (.Name x p')) pos.line env = pure false := by intro _; rfl) : Ex c S σ ρ (.Assign [.Name x p'] e pos :: rest) P :=
  Ex.step fun s F => wpAny_Assign_Name (h1 [] s _ F fun v s1 σ' d hp F1 => store_any F1.toH hk fun s2 F2 => h2 σ' d hp s2 F2.toFs) (hs _)
end
end Mine
namespace Mine
/-- a state that never is, where p does not hold -/
noncomputable def gd (p : Prop) (ρ : Rho) : Rho := by classical exact if p then ρ else [(("?" : Str), B.unset)]
theorem gd_pos {p : Prop} {ρ : Rho} (h : p) : gd p ρ = ρ := by unfold gd; exact if_pos h
theorem gd_neg {p : Prop} {ρ : Rho} (h : ¬ p) : gd p ρ = [(("?" : Str), B.unset)] := by unfold gd; exact if_neg h
section
variable {c : Cx} {S : Scope} {κ : Option Kp} {σ σ1 σ2 σ3 : Sg} {ρ ρ1 ρ2 : Rho} {lv : List (Str × D)} {T : List (Value × D)} {s : Shared}
theorem Fs.absurd {p : Prop} (hn : S.names.lookup ("?" : Str) = Option.none) (hp : ¬ p) (F : Fs c S κ σ (gd p ρ) lv T s) : False := by
  obtain ⟨σo, Z, hσ, own, m, lm, F⟩ := F
  rw [gd_neg hp] at F
  cases F.var ("?" : Str) .unset rfl with
  | unset hk _ _ _ => rw [hn] at hk; cases hk
  | loc hk _ _ => rw [hn] at hk; cases hk

/-- a for with what holds as the turns go -/
theorem Ex.forI {target iter : Expr} {body : List Stmt} {pos : Pos} {rest : List Stmt} {P : Flow → Shared → Prop} {ds : List D} (I : Nat → Prop) (σf : Nat → Sg) (ρf : Nat → Rho) (h1 : EvIt c S .none σ ρ [] target iter (σf 0) ds) (hI : I 0) (h0 : ∀ p ∈ ρf 0, ρ.lookup p.1 = some p.2)
    (tgt : ∀ i d, ds[i]? = some d → ∃ ρ', ∀ ρ0, Tg S target d ρ0 (ρ' ++ ρ0) ∧ (I i → ∀ Zs E, Ex (c.at_ Zs) S (E ++ σf i) (ρ' ++ ρf i) body (ForP c S Zs E (σf (i + 1)) (gd (I (i + 1)) (ρf (i + 1))) Option.none P)))
    (done : I ds.length → Ex c S (σf ds.length) (ρf ds.length) rest P) (hn : S.names.lookup ("?" : Str) = Option.none := by rfl)
    (hs : ∀ env x, foldedSetIterable iter env x = pure x := by intros; rfl) : Ex c S σ ρ (.For target iter body [] pos :: rest) P := by
  refine Ex.for_ σf (fun i => gd (I i) (ρf i)) Option.none h1 (by rw [gd_pos hI]; exact h0) (fun i d hd => ?_) ?_ (fun b e => by cases e) hs
  · obtain ⟨ρ', h⟩ := tgt i d hd
    refine ⟨_, (h (gd (I i) (ρf i))).1, fun Zs E s F => ?_⟩
    by_cases hi : I i
    · rw [gd_pos hi] at F
      exact (h (ρf i)).2 hi Zs E s F
    · exfalso
      obtain ⟨σo, Z, hσ, own, m, lm, F⟩ := F
      have hx : (ρ' ++ gd (I i) (ρf i)).lookup ("?" : Str) ≠ Option.none := by
        rw [gd_neg hi]
        intro e
        rw [List.lookup_eq_none_iff] at e
        exact absurd (e (("?" : Str), B.unset) (List.mem_append_right _ (.head _))) (by simp)
      obtain ⟨b, hb⟩ := Option.ne_none_iff_exists'.mp hx
      cases F.var ("?" : Str) b hb with
      | loc hk _ _ => rw [hn] at hk; cases hk
      | cell hk _ _ _ _ => rw [hn] at hk; cases hk
      | free hk _ _ _ _ => rw [hn] at hk; cases hk
      | unset hk _ _ _ => rw [hn] at hk; cases hk
      | frozen hk _ _ _ _ => rw [hn] at hk; cases hk
  · intro s F
    by_cases hi : I ds.length
    · have F : Fs c S .none (σf ds.length) (gd (I ds.length) (ρf ds.length)) [] [] s := F
      rw [gd_pos hi] at F
      exact done hi s F
    · exact (Fs.absurd (p := I ds.length) hn hi F).elim
theorem ForP.nextI {Zs : Kn} {E : Sg} {σ' : Sg} {ρ' : Rho} {P : Flow → Shared → Prop} {p : Prop} (hp : p) (hσ : σ = E ++ σ') (h : ∀ q ∈ ρ', ρ.lookup q.1 = some q.2) : NextP (ForP c S Zs E σ' (gd p ρ') Option.none P) (c.at_ Zs) S σ ρ := by
  rw [gd_pos hp]; exact ForP.next hσ h

theorem dict_new (w : World) : (⟨.type "dict", Option.none, .dict #[], #[]⟩ : Obj).IsDictOf (strKind PG w) [] := by
  obtain ⟨o, ho, hd⟩ := Heap.dictOf_iff.mp (Heap.DictOf.new (knd := strKind PG w) (default : Heap))
  rw [Heap.get?_push_size _ rfl] at ho
  cases ho
  exact hd
/-- {'figures': e1, 'stir': e2} -/
theorem EvG.srcNew {k1 k2 : Nat} {p1 p2 pos : Pos} {e1 e2 : Expr} {a b : Int} (h1 : ∀ τ, Ev c S .none (τ :: σ) ρ lv e1 (τ :: σ) (.int a)) (h2 : ∀ τ, Ev c S .none (τ :: σ) ρ lv e2 (τ :: σ) (.int b)) :
    EvG c S .none σ ρ lv (.Dict [some (.Constant (.str "figures") k1 p1), some (.Constant (.str "stir") k2 p2)] [e1, e2] pos) fun σ' d => ∃ sd, σ' = (sd, Src c.w a b) :: σ ∧ d = .val (.ref sd) := fun T s Q F h => by
  have F0 := F
  obtain ⟨σo, Z, hσ, own, m, lm, F⟩ := F
  have k : ∀ b o, s.heap.get? b = some o → (s.heap.push { cls := .type "dict", data := .dict #[] }).get? b = some o := fun b o e => Heap.get?_push_of_some _ e
  have C1 := F.core.newHead (h' := s.heap.push { cls := .type "dict", data := .dict #[] }) s.toks (size_none _) (Heap.get?_push_size _ rfl) k
  have F1 : Fs c S .none ((s.heap.objs.size, same_ { cls := .type "dict", data := .dict #[] }) :: σ) ρ lv T { s with heap := s.heap.push { cls := .type "dict", data := .dict #[] } } := ⟨_, Z, .cons rfl hσ, own, m, lm, C1, F.fn, F.var, F.lov, F.tmp⟩
  refine wpAny_Dict_walk (knd := strKind PG c.w) rfl rfl (by simp) (by simp) ?_
  show wpAny _ _ (evalPairs [(eval (.Constant (.str "figures") k1 p1) (envAt c S .none), do let x ← eval e1 (envAt c S .none); standAt pos; pure x), (eval (.Constant (.str "stir") k2 p2) (envAt c S .none), do let x ← eval e2 (envAt c S .none); standAt pos; pure x)]) _ _ _
  refine evalPairs_cons (wpAny_Constant_str (wpAny_bind (h1 _ _ _ _ (F1.tick _) fun v1 s1 F2 => wpAny_bind (wpAny_standAt (wpAny_pure ?_)))))
  refine evalPairs_cons (wpAny_Constant_str (wpAny_bind (h2 _ _ _ _ (F2.tick _) fun v2 s2 F3 => wpAny_bind (wpAny_standAt (wpAny_pure (evalPairs_nil ?_))))))
  obtain ⟨t, rfl⟩ := F3.isInt (.tail _ (.head _))
  obtain ⟨u, rfl⟩ := F3.isInt (.head _)
  obtain ⟨l3, Z3, hl3, own3, m3, lm3, F3⟩ := F3
  cases hl3 with
  | cons ho hr =>
  obtain rfl := ho
  have hD := (F3.core.sg _ (.head _)).1
  refine ⟨[(("figures" : Str), .int a t), (("stir" : Str), .int b u)], ?_, Heap.dictOf_iff.mpr ⟨_, hD, dict_new _⟩, fun h' hd' hsb => ?_⟩
  · exact ⟨strKind_is _ _ _ _, rfl, strKind_is _ _ _ _, rfl, trivial⟩
  · obtain ⟨o', ho', hi'⟩ := Heap.dictOf_iff.mp hd'
    refine h _ _ _ _ ⟨s.heap.objs.size, rfl, rfl⟩ ⟨_, Z3, .cons ⟨t, u, hi'⟩ hr, own3, m3, lm3, F3.core.headSet _ ho' fun b ob hb e => (hsb.2 b hb).trans e, F3.fn, F3.var, F3.lov, fun p hp => ?_⟩
    rcases List.mem_cons.mp hp with rfl | hp
    · exact .val _
    · exact F3.tmp p (.tail _ (.tail _ hp))
/-- {'start': e1, 'middle': e2, 'end': e3}[e] -/
theorem Ev.dict3 {k1 k2 k3 : Nat} {p1 p2 p3 pos spos : Pos} {e1 e2 e3 e : Expr} {a b d r : Int} {x : Str} (h1 : ∀ τ, Ev c S .none (τ :: σ) ρ lv e1 (τ :: σ) (.int a)) (h2 : ∀ τ, Ev c S .none (τ :: σ) ρ lv e2 (τ :: σ) (.int b)) (h3 : ∀ τ, Ev c S .none (τ :: σ) ρ lv e3 (τ :: σ) (.int d)) (h4 : ∀ τ, Ev c S .none (τ :: σ) ρ lv e (τ :: σ) (.str x))
    (hr : x = "start" ∧ r = a ∨ x = "middle" ∧ r = b ∨ x = "end" ∧ r = d) 
    (hs : ∀ o i, subscripted e false o i = operate [o, i] (getItem o i) := by intros; with_unfolding_all rfl) :
    Ev c S .none σ ρ lv (.Subscript (.Dict [some (.Constant (.str "start") k1 p1), some (.Constant (.str "middle") k2 p2), some (.Constant (.str "end") k3 p3)] [e1, e2, e3] pos) e spos) σ (.int r) := fun T s Q F h => by
  have F0 := F
  obtain ⟨σo, Z, hσ, own, m, lm, F⟩ := F
  have k : ∀ b o, s.heap.get? b = some o → (s.heap.push { cls := .type "dict", data := .dict #[] }).get? b = some o := fun b o e => Heap.get?_push_of_some _ e
  have C1 := F.core.newHead (h' := s.heap.push { cls := .type "dict", data := .dict #[] }) s.toks (size_none _) (Heap.get?_push_size _ rfl) k
  have F1 : Fs c S .none ((s.heap.objs.size, same_ { cls := .type "dict", data := .dict #[] }) :: σ) ρ lv T { s with heap := s.heap.push { cls := .type "dict", data := .dict #[] } } := ⟨_, Z, .cons rfl hσ, own, m, lm, C1, F.fn, F.var, F.lov, F.tmp⟩
  refine Subscript_ (wpAny_Dict_walk (knd := strKind PG c.w) rfl rfl (by simp) (by simp) ?_)
  show wpAny _ _ (evalPairs [(eval (.Constant (.str "start") k1 p1) (envAt c S .none), do let x ← eval e1 (envAt c S .none); standAt pos; pure x), (eval (.Constant (.str "middle") k2 p2) (envAt c S .none), do let x ← eval e2 (envAt c S .none); standAt pos; pure x), (eval (.Constant (.str "end") k3 p3) (envAt c S .none), do let x ← eval e3 (envAt c S .none); standAt pos; pure x)]) _ _ _
  refine evalPairs_cons (wpAny_Constant_str (wpAny_bind (h1 _ _ _ _ (F1.tick _) fun v1 s1 F2 => wpAny_bind (wpAny_standAt (wpAny_pure ?_)))))
  refine evalPairs_cons (wpAny_Constant_str (wpAny_bind (h2 _ _ _ _ (F2.tick _) fun v2 s2 F3 => wpAny_bind (wpAny_standAt (wpAny_pure ?_)))))
  refine evalPairs_cons (wpAny_Constant_str (wpAny_bind (h3 _ _ _ _ (F3.tick _) fun v3 s3 F4 => wpAny_bind (wpAny_standAt (wpAny_pure (evalPairs_nil ?_))))))
  obtain ⟨t, rfl⟩ := F4.isInt (.tail _ (.tail _ (.head _)))
  obtain ⟨u, rfl⟩ := F4.isInt (.tail _ (.head _))
  obtain ⟨u', rfl⟩ := F4.isInt (.head _)
  obtain ⟨l3, Z3, hl3, own3, m3, lm3, F4⟩ := F4
  cases hl3 with
  | cons ho hrl =>
  obtain rfl := ho
  have hD := (F4.core.sg _ (.head _)).1
  refine ⟨[(("start" : Str), .int a t), (("middle" : Str), .int b u), (("end" : Str), .int d u')], ⟨strKind_is _ _ _ _, rfl, strKind_is _ _ _ _, rfl, strKind_is _ _ _ _, rfl, trivial⟩, Heap.dictOf_iff.mpr ⟨_, hD, dict_new _⟩, fun h' hd' hsb => ?_⟩
  obtain ⟨o', ho', hi'⟩ := Heap.dictOf_iff.mp hd'
  let P : SO := ⟨fun _ o => o.IsDictOf (strKind PG c.w) [(("start" : Str), .int a t), (("middle" : Str), .int b u), (("end" : Str), .int d u')], fun _ h => h⟩
  have F5 : Fs c S .none ((s.heap.objs.size, P) :: σ) ρ lv T { s3 with heap := h', toks := s3.toks + 3 } := ⟨_, Z3, .cons hi' hrl, own3, m3, lm3, F4.core.headSet _ ho' fun b ob hb e => (hsb.2 b hb).trans e, F4.fn, F4.var, F4.lov, fun p hp => F4.tmp p (.tail _ (.tail _ (.tail _ hp)))⟩
  refine h4 _ _ _ _ F5 fun iv s6 F6 => ?_
  obtain ⟨tx, rfl⟩ := F6.isStr (.head _)
  obtain ⟨l6, Z6, hl6, own6, m6, lm6, F6⟩ := F6
  cases hl6 with
  | @cons _ _ o6 _ _ ho6 hr6 =>
  have hd6 : s6.heap.DictOf (strKind PG c.w) s.heap.objs.size [(("start" : Str), .int a t), (("middle" : Str), .int b u), (("end" : Str), .int d u')] := Heap.dictOf_iff.mpr ⟨o6, (F6.core.sg _ (.head _)).1, ho6⟩
  obtain ⟨tv, hv⟩ : ∃ tv, valueAt [(("start" : Str), Value.int a t), (("middle" : Str), .int b u), (("end" : Str), .int d u')] x = some (.int r tv) := by
    rcases hr with ⟨rfl, rfl⟩ | ⟨rfl, rfl⟩ | ⟨rfl, rfl⟩
    · exact ⟨t, rfl⟩
    · exact ⟨u, rfl⟩
    · exact ⟨u', rfl⟩
  refine tail_any (T := "dict") hd6.typeIs slot_dict_getitem.lookup (wpAny_getItem_of (strKind_is _ _ _ _) hd6.mapOf hv (h _ _ ?_)) (hs _ _)
  refine ⟨_, Z6, hr6, own6, m6, lm6, F6.core.dropHead (s6.toks + 1) (fun b ob hb e => e), F6.fn, F6.var, F6.lov, fun p hp => ?_⟩
  rcases List.mem_cons.mp hp with rfl | hp
  · exact .int _ _
  · exact F6.tmp p (.tail _ hp)
theorem isL_strs {Z : Kn} : ∀ {ys : List Str} {vs : List Value}, IsL Z (ys.map .str) vs → ∃ l : List (Str × Tok), vs = strValues l ∧ l.map (·.1) = ys
  | [], _, .nil => ⟨[], rfl, rfl⟩
  | y :: _, _, .cons (.str _ t) r => by
    obtain ⟨l, e1, e2⟩ := isL_strs r
    exact ⟨(y, t) :: l, by rw [e1]; rfl, by simp [e2]⟩
set_option maxRecDepth 100000 in
/-- 'x'.join(e) -/
theorem Ev.join {value e : Expr} {apos pos : Pos} {x : Str} {ys : List Str} (h1 : Ev c S κ σ ρ lv value σ1 (.str x)) (h2 : Ev c S κ σ1 ρ lv e σ2 (.lst (ys.map .str))) (hok : JoinOk x ys = true)
    (h3 : ∀ env, starEach [e] env = (false, eval e env) :: starEach [] env := by intro _; rfl)
    (pl : Env → Sem Bool := fun env => (do return (← importBound value env).getD true))
    (he : ∀ env, eval (.Call (.Attribute value "join" apos) [e] [] pos) env = (do
      let ov ← eval value env
      standAt apos.atName
      let (f, first) ← holding [ov] (getMethod ov "join" (pl env))
      callWith pos f first (backTo pos (starEach [e] env)) []) := by intro _; rfl) :
    Ev c S κ σ ρ lv (.Call (.Attribute value "join" apos) [e] [] pos) σ2 (.str (Txt.join x ys)) := fun T s Q F h => by
  refine MethodCall_ (pl := pl (envAt c S κ)) (h1 T s _ F fun v s1 F1 => ?_) (he _)
  obtain ⟨t, rfl⟩ := F1.isStr (.head _)
  refine GM.join ?_
  refine (callWith_method1 (spliced_more (h2 _ s1 _ F1.drop1 fun v s2 F2 => spliced_none ?_) (h3 _)) (h3 _) rfl)
  obtain ⟨a, vs, rfl, hl, hL, F3⟩ := F2.openLst (.head _)
  obtain ⟨l, hl1, hl2⟩ : ∃ l : List (Str × Tok), vs = strValues l ∧ l.map (·.1) = ys := by
    have F3' := F3
    obtain ⟨σo, Z, hσ, own, m, lm, F3⟩ := F3'
    exact isL_strs (isL_zip hl F3.tmp)
  subst hl1
  refine SC.join hL hl2 hok fun t' k => h _ _ ((F3.back.drop1.tick k).push fun _ => .str _ _)
end
end Mine
namespace Mine
section
variable {c : Cx} {S : Scope} {κ : Option Kp} {σ σ1 σ2 σ3 : Sg} {ρ ρ1 ρ2 : Rho} {lv : List (Str × D)} {T : List (Value × D)} {s : Shared}

/-- a name of the top's that is no call -/
theorem Ev.glob {x : Str} {f : Value} {pos : Pos} (g : nsIn (hd.heap_1 c.w.params) mainGlobals x = some (some f)) (hk : ∀ L a ccd cl cn C kcl, (match κ with | .none => envX cn S L a ccd cl | .some k => compEnvC k.scope kcl C (envX cn S L a ccd cl)).kindOf x = some .globalImplicit := by intros; rfl) (hd : (x == ("__debug__" : Str)) = false := by decide) :
    Ev c S κ σ ρ lv (.Name x pos) σ (.val f) := fun T s Q F h => by
  have hk' : (envAt c S κ).kindOf x = some .globalImplicit := by
    have := hk c.L c.a c.ccd c.cl c.cn
    cases κ with
    | none => exact this default default
    | some k => exact this k.C k.cl
  exact name_glob F g (h _ _ (F.push fun _ => .val _)) hk' hd
/-- a sign of a text -/
theorem sub_str {w : World} {value slice : Expr} {ks : List Nat} {k : Int} {n : Nat} (h0 : 0 ≤ k) (hhi : k < 2 ^ 63) (hd : ks[k.toNat]? = some n) 
    (hs : ∀ o i, subscripted slice false o i = operate [o, i] (getItem o i) := by intros; with_unfolding_all rfl) : Sub w value slice (.str (txt ks)) (.int k) (.str ⟨#[n]⟩) := fun c S κ σ ρ lv T s Q v1 v2 hw F h => by
  obtain ⟨u, rfl⟩ := F.isInt (.head _)
  obtain ⟨t, rfl⟩ := F.isStr (.tail _ (.head _))
  have hlt : k.toNat < ks.length := (List.getElem?_eq_some_iff.mp hd).1
  refine tail_any (T := "str") (typeIs_str _ _ _) PySem.F.slot_str_getitem.lookup (PySem.P.getItem_str (c := n) (by simp; omega) ?_ (h _ _ ((F.drop2.tick _).push fun _ => .str _ _))) (hs _ _)
  have : seqIndex? k (txt ks).length = some k.toNat := by
    unfold seqIndex?
    simp [Str.length]
    omega
  rw [this]
  simpa using hd

theorem pick_upto (xs : Array Value) (b : Nat) : ((List.range b).filterMap fun (k : Nat) => xs[((0 : Int) + (k : Int) * 1).toNat]?).toArray = (xs.toList.take b).toArray := by
  have e : (fun (k : Nat) => xs[((0 : Int) + (k : Int) * 1).toNat]?) = fun k => xs[0 + k]? := by
    funext k
    have : ((0 : Int) + (k : Int) * 1).toNat = 0 + k := by omega
    rw [this]
  rw [e]
  have := pick_run xs 0 b
  rw [List.filterMap_map] at this
  have e2 : ((fun x => xs[x]?) ∘ fun x => 0 + x) = fun k => xs[0 + k]? := rfl
  rw [e2] at this
  rw [this, List.drop_zero]
section
variable {prog : Program} {w : World} {A : Around} {E : Value → Shared → Prop} {s : Shared}
theorem sliceApplied_upto {sl : Addr} {b n : Nat} {u : Tok} {Q : Int × Int × Nat → Shared → Prop} (hs : s.heap.IsSliceOf sl .none (.int b u) .none) (hb : b ≤ n) (h : Q ((0 : Int), 1, b) s) :
    wpAny (model prog w) A (Builtin.Slice.sliceApplied (.ref sl) (pure (n : Int))) Q E s := by
  obtain ⟨os, hos, hcs, hds⟩ := id hs
  have e1 : Builtin.Slice.sliceAdjust none (some (b : Int)) 1 (n : Int) = ((0 : Int), (b : Int)) := by
    unfold Builtin.Slice.sliceAdjust
    have h1 : ¬ ((1 : Int) < 0) := by omega
    have h2 : ¬ ((b : Int) < 0) := by omega
    simp only [h1, h2, if_false]
    congr 1
    omega
  have e2 : Builtin.Slice.slicePlaces (0 : Int) (b : Int) 1 = b := by
    unfold Builtin.Slice.slicePlaces
    have h1 : (1 : Int) > 0 := by omega
    simp only [h1, if_true, Int.ediv_one]
    split <;> omega
  unfold Builtin.Slice.sliceApplied Builtin.Slice.sliceFields
  refine wpAny_bind (wpAny_bind (wpAny_field hos hds (x := .none) rfl (wpAny_bind (wpAny_field hos hds (x := .int b u) rfl (wpAny_bind (wpAny_field hos hds (x := .none) rfl (wpAny_pure ?_)))))))
  refine wpAny_bind (slicePart_none ?_)
  show wpAny _ _ (if ((1 : Int) == 0) = true then _ else _) _ _ s
  rw [if_neg (by decide)]
  refine wpAny_bind (slicePart_none (wpAny_bind (slicePart_int (wpAny_bind (wpAny_pure ?_)))))
  show wpAny _ _ (match Builtin.Slice.sliceAdjust none (some (b : Int)) 1 (n : Int) with | (lo, hi) => pure (lo, (1 : Int), Builtin.Slice.slicePlaces lo hi 1)) _ _ s
  rw [e1]
  show wpAny _ _ (pure ((0 : Int), (1 : Int), Builtin.Slice.slicePlaces (0 : Int) (b : Int) 1)) _ _ s
  rw [e2]
  exact wpAny_pure h
theorem getItem_tuple_upto {t sl : Addr} {items : Array Value} {b : Nat} {u : Tok} {Q : Value → Shared → Prop} (ht : IsTup s.heap t items) (hs : s.heap.IsSliceOf sl .none (.int b u) .none) (hb : b < items.size)
    (h : Q (.ref s.heap.objs.size) { s with heap := s.heap.push { cls := .type "tuple", data := .seq (items.toList.take b).toArray } })
    (hsz : items.size ≤ sizeLine) : wpAny (model prog w) A (getItem (.ref t) (.ref sl)) Q E s := by
  have htake : sizeOk (.seq (items.toList.take b).toArray) := by
    show (items.toList.take b).toArray.size ≤ sizeLine
    rw [List.size_toArray, List.length_take, Array.length_toList]
    omega
  obtain ⟨os, hos, hcs, hds⟩ := id hs
  have hTs : s.TypeIs (.ref sl) "slice" := ⟨os, hos, hcs⟩
  unfold getItem
  try with_reducible refine wpAny_holding ?_
  first | refine wpAny_bind (wpAny_pure ?_) | skip
  refine wpAny_bind (wpAny_sequenceKey ht.typeIs (by decide) ?_)
  refine wpAny_bind (wpAny_callSpecial?_slot (name := Str.ofString "__getitem__") ht.typeIs slot_tuple_getitem
    (wpAny_call_entry slot_tuple_getitem ht.typeIs entry_tuple_getitem ?_ (args_tuple_getitem _ _)))
  show wpAny _ _ (Builtin.Tuple.tupleItemsOf (.ref t) >>= _) _ _ s
  refine wpAny_bind (tupleItemsOf_ ht ?_)
  refine wpAny_bind (wpAny_typeOf hTs ?_)
  rw [if_pos (by decide)]
  refine wpAny_bind (sliceApplied_upto hs (Nat.le_of_lt hb) ?_)
  have hno : ¬ (((0 : Int) == 0 && (1 : Int) == 1 && b == items.size) = true) := by
    have : (b == items.size) = false := by rw [beq_eq_false_iff_ne]; omega
    rw [this]; simp
  show wpAny _ _ (if ((0 : Int) == 0 && (1 : Int) == 1 && b == items.size) = true then _ else _) _ _ s
  rw [if_neg hno, pick_upto items b]
  first
    | exact wpAny_bind (m := Builtin.Tuple.tupleExact _) (wpAny_newObj_type (wpAny_pure ⟨_, rfl, wpAny_pure h⟩) htake)
    | exact wpAny_bind (m := Builtin.Tuple.tupleExact _) (wpAny_newObj_type (wpAny_bind (wpAny_pure (wpAny_pure ⟨_, rfl, wpAny_pure h⟩))) htake)
    | exact wpAny_bind (wpAny_bind (m := Builtin.Tuple.tupleExact _) (wpAny_newObj_type (wpAny_pure (wpAny_pure ⟨_, rfl, wpAny_pure h⟩)) htake))
    | exact wpAny_bind (wpAny_bind (m := Builtin.Tuple.tupleExact _) (wpAny_newObj_type (wpAny_pure ⟨_, rfl, wpAny_pure h⟩) htake))
end
/-- x[:b] of a tuple that is longer -/
theorem Ev.uptoT {value hi : Expr} {p pos : Pos} {ds : List D} {a : Nat} (h1 : Ev c S κ σ ρ lv value σ1 (.tup ds)) (h2 : Ev c S κ σ1 ρ lv hi σ2 (.int a)) (hlt : a < ds.length) (hz : ds.length ≤ 1000) (ht : ∀ o r, letTemporaryGo value o r = pure () := by intro _ _; rfl) :
    Ev c S κ σ ρ lv (.Subscript value (.Slice Option.none (some hi) Option.none p) pos) σ2 (.tup (ds.take a)) := fun T s Q F h =>
  wpAny_Subscript_Slice (T := "tuple") slot_tuple_getitem.lookup (h1 T s _ F fun v1 s1 F1 => wpAny_Slice (by
    rw [evalPart_none]
    refine wpAny_pure (h2 _ s1 _ F1 fun v2 s2 F2 => ?_)
    refine wpAny_pure ?_
    obtain ⟨t, rfl⟩ := F2.isInt (.head _)
    obtain ⟨l, vs, rfl, hl, hL, F3⟩ := F2.openTup (.tail _ (.head _))
    have hsz : (s2.heap.push { cls := .type "slice", data := .fields #[.none, .int a t, .none] }).objs.size = s2.heap.objs.size + 1 := Heap.size_push ..
    have hL' : IsTup (s2.heap.push { cls := .type "slice", data := .fields #[.none, .int a t, .none] }) l vs.toArray := hL.keeps fun _ _ e => Heap.get?_push_of_some _ e
    refine ⟨hL'.typeIs, getItem_tuple_upto (s := { s2 with heap := s2.heap.push { cls := .type "slice", data := .fields #[.none, .int a t, .none] } }) hL' (Heap.IsSliceOf.new ..) (by simp [hl]; exact hlt) ?_ (by rw [sizeLine_eq]; simp [hl]; omega)⟩
    have F4 := F3.grow (h' := s2.heap.push { cls := .type "slice", data := .fields #[.none, .int a t, .none] }) s2.toks fun _ _ e => Heap.get?_push_of_some _ e
    have F5 := F4.freshTup (ds := ds.take a) (vs := vs.take a) (n := 0) (a := (s2.heap.push { cls := .type "slice", data := .fields #[.none, .int a t, .none] }).objs.size) (h' := (s2.heap.push { cls := .type "slice", data := .fields #[.none, .int a t, .none] }).push { cls := .type "tuple", data := .seq (vs.take a).toArray }) s2.toks
      (fun Z hz => (isL_zip hl hz).take a) (fun _ _ e => Heap.get?_push_of_some _ e) (size_none _) (Heap.get?_push_size _ rfl)
    refine h _ _ (F5.temps fun p hp => ?_)
    rcases List.mem_cons.mp hp with rfl | hp
    · exact .head _
    · exact .tail _ (List.mem_append_right _ (.tail _ (.tail _ hp))))) ht
/-- a piece of a text -/
noncomputable def cut (x : Str) (a b : Int) : Str := ⟨((slicePicked x (some (a, 0)) (some (b, 0)) none).filterMap (x.cps[·]?)).toArray⟩
theorem Ev.cutS {value lo hi : Expr} {p pos : Pos} {x : Str} {a b : Int} (h1 : Ev c S κ σ ρ lv value σ1 (.str x)) (h2 : Ev c S κ σ1 ρ lv lo σ2 (.int a)) (h3 : Ev c S κ σ2 ρ lv hi σ3 (.int b)) (hx : (slicePicked x (some (a, 0)) (some (b, 0)) Option.none).length = x.length → cut x a b = x) (hz : (cut x a b).length ≤ 1000)
    (ht : ∀ o r, letTemporaryGo value o r = pure () := by intro _ _; rfl) :
    Ev c S κ σ ρ lv (.Subscript value (.Slice (some lo) (some hi) Option.none p) pos) σ3 (.str (cut x a b)) := fun T s Q F h =>
  wpAny_Subscript_str_slice (h1 T s _ F fun v1 s1 F1 => h2 _ s1 _ F1 fun v2 s2 F2 => h3 _ s2 _ F2 fun v3 s3 F3 => by
    obtain ⟨t, rfl⟩ := F3.isInt (.head _)
    obtain ⟨u, rfl⟩ := F3.isInt (.tail _ (.head _))
    obtain ⟨tx, rfl⟩ := F3.isStr (.tail _ (.tail _ (.head _)))
    have F4 := F3.grow (h' := s3.heap.push { cls := .type "slice", data := .fields #[.int a u, .int b t, .none] }) s3.toks fun _ _ e => Heap.get?_push_of_some _ e
    refine ⟨x, tx, some (a, u), some (b, t), rfl, rfl, rfl, ?_⟩
    have es : slicePicked x (some (a, u)) (some (b, t)) Option.none = slicePicked x (some (a, 0)) (some (b, 0)) Option.none := rfl
    unfold sliceMade
    rw [es]
    split
    · rename_i q
      have hq : (slicePicked x (some (a, 0)) (some (b, 0)) Option.none).length = x.length := by simpa using q
      refine h _ _ (F4.drop1.drop1.drop1.push fun _ => ?_)
      rw [hx hq]; exact .str _ _
    · dsimp only [Made.post]
      exact ⟨by rw [sizeLine_eq]; exact Nat.le_trans hz (by decide), h _ _ ((F4.drop1.drop1.drop1.tick _).push fun _ => .str _ _)⟩) ht
end
end Mine
namespace Mine
section
variable {c : Cx} {S : Scope} {κ : Option Kp} {σ σ1 σ2 σ3 : Sg} {ρ ρ1 ρ2 : Rho} {lv : List (Str × D)} {T : List (Value × D)} {s : Shared}

/-- a call of a value hands back r -/
noncomputable def FnV (w : World) (d : D) (need : Nat) (ds : List D) (σ σ' : Sg) (r : D) : Prop :=
  ∀ (c : Cx) (S : Scope) (κ : Option Kp) (ρ : Rho) (lv : List (Str × D)) (T : List (Value × D)) (v : Value) (vs : List Value) (s : Shared) (A : Around) (R : Result → Shared → Prop),
    c.w = w → A.handled = none → A.depth + need < recursionLimit → A.units + 8 * need + 64 < cLine → vs.length = ds.length → Fs c S κ σ ρ lv (zipT vs ds ((v, d) :: T)) s →
    (∀ u s', Fs c S κ σ' ρ lv ((u, r) :: T) s' → R (.ok (.ret u)) s') → codeAny (model PG w) A (.call v ⟨vs, []⟩) R s

/-- back to the caller -/
theorem leave {c' : Cx} {S' : Scope} {σo : Led} {Z : Kn} {own : Own} {m lm : Str → Option Value} {σ' : Sg} {u : Value} {r : D} {s2 : Shared} (F : FsAt c S κ σo ρ lv T s Z own m lm) (hσ : Rl Z σ σo) (hg : c'.g = hideAll s.heap (σo.map (·.1))) (hZ : c'.Z0 = Z)
    (hs : c'.gens = c.gens ∧ c'.drawn = c.drawn ∧ c'.os = c.os) (hσn : ∀ p ∈ σ, ∃ q ∈ σ', q.1 = p.1) (F2 : Fs c' S' .none σ' [] [] [(u, r)] s2) : Fs c S κ σ' ρ lv ((u, r) :: T) s2 := by
  obtain ⟨σ2, Z', hσ2, own2, m2, lm2, F2⟩ := F2
  have C := F.core
  have C2 := F2.core
  have gin : ∀ b o, s.heap.get? b = some o → (∀ p ∈ σo, b ≠ p.1) → c'.g.get? b = some o := fun b o e n => by
    rw [hg]
    exact hideAll_get _ e fun q => by
      obtain ⟨p, hp, e'⟩ := List.mem_map.mp q
      exact n p hp e'.symm
  have cg : ∀ b o, c.g.get? b = some o → c'.g.get? b = some o := fun b o e => gin b o (C.fr.keep b o e) fun p hp q => by
    have := (C.sg p hp).2.2; rw [← q, e] at this; cases this
  have zz : ∀ a o, Z a o → Z' a o := fun a o hz => C2.z0 a o (hZ ▸ hz)
  have kept : ∀ b o, s.heap.get? b = some o → (∀ p ∈ σo, b ≠ p.1) → s2.heap.get? b = some o := fun b o e n => C2.fr.keep b o (gin b o e n)
  have σσ : ∀ p ∈ σ2, (∃ q ∈ σo, q.1 = p.1) ∨ s.heap.get? p.1 = none := fun p hp => by
    by_cases h : ∃ q ∈ σo, q.1 = p.1
    · exact .inl h
    · right
      cases q : s.heap.get? p.1 with
      | none => rfl
      | some o' => exact absurd ((C2.sg p hp).2.2.symm.trans (gin _ o' q fun r hr e => h ⟨r, hr, e.symm⟩)) (by simp)
  have σσ' : ∀ p ∈ σo, ∃ q ∈ σ2, q.1 = p.1 := fun p hp => by
    obtain ⟨q, hq, e⟩ := List.mem_map.mp (hσ.fst ▸ List.mem_map_of_mem hp : p.1 ∈ σ.map (·.1))
    obtain ⟨r, hr, e'⟩ := hσn q hq
    obtain ⟨t, ht, e2⟩ := List.mem_map.mp (hσ2.fst ▸ List.mem_map_of_mem hr : r.1 ∈ σ2.map (·.1))
    exact ⟨t, ht, e2.trans (e'.trans e)⟩
  have fresh : ∀ a o, Z' a o → Z a o ∨ s.heap.get? a = none := fun a o hz => by
    obtain ⟨_, _, _, h4, h5⟩ := C2.zk a o hz
    rcases h5 with h5 | h5
    · exact .inl (hZ ▸ h5)
    · right
      cases q : s.heap.get? a with
      | none => rfl
      | some o' =>
        have : c'.g.get? a = some o' := gin a o' q fun p hp e => by
          obtain ⟨r, hr, e'⟩ := σσ' p hp
          exact h4 r hr (e.trans e'.symm)
        exact absurd (h5.symm.trans this) (by simp)
  have hL : ∀ p ∈ σo, c.L ≠ p.1 := fun p hp e => (C.sg p hp).2.1 e.symm
  have ne : ∀ {a b : Addr} {ob : Obj}, s.heap.get? a = none → s.heap.get? b = some ob → a ≠ b := fun hn' e q => by rw [q, e] at hn'; cases hn'
  have nL : ∀ {a : Addr}, s.heap.get? a = none → a ≠ c.L := fun hn' => by obtain ⟨oL, _, _, hLo, _⟩ := C.fr.ns; exact ne hn' hLo
  have ng : ∀ {a : Addr}, s.heap.get? a = none → c.g.get? a = none := fun {a} hn' => by
    cases q : c.g.get? a with
    | none => rfl
    | some o' => exact absurd rfl (ne hn' (C.fr.keep _ _ q))
  obtain ⟨dj1, dj2, dj3⟩ := List.pairwise_append.mp C.dj
  refine ⟨σ2, Z', hσ2, own, m, lm, ⟨C.ok, ?_, ⟨?_, fun b o e => C2.fr.keep b o (cg b o e), C.fr.above⟩, fun p hp => ?_, fun p hp => ?_, ?_, fun a o hz => ?_, fun a o hz => zz a o (C.z0 a o hz), fun k e => ?_⟩, F.fn, fun x b e => (F.var x b e).mono zz, fun x d e => ?_, fun p hp => ?_⟩
  · have e1 := C2.sh
    rw [e1, hs.1, hs.2.1, hs.2.2]
  · obtain ⟨oL, es', ep, hLo, r⟩ := C.fr.ns
    exact ⟨oL, es', ep, kept _ _ hLo hL, r⟩
  · rcases σσ p hp with ⟨q, hq, e⟩ | hn'
    · refine ⟨(C2.sg p hp).1, ?_, ?_⟩
      · rw [← e]; exact (C.sg q hq).2.1
      · rw [← e]; exact (C.sg q hq).2.2
    · exact ⟨(C2.sg p hp).1, nL hn', ng hn'⟩
  · have := C.ow p hp
    exact ⟨kept _ _ this.1 fun q hq e => dj3 p hp q hq e, this.2⟩
  · refine List.pairwise_append.mpr ⟨dj1, (List.pairwise_append.mp C2.dj).2.1, fun p hp q hq => ?_⟩
    rcases σσ q hq with ⟨r, hr, e⟩ | hn'
    · rw [← e]; exact dj3 p hp r hr
    · exact (ne hn' (C.ow p hp).1).symm
  · have zk2 := C2.zk a o hz
    rcases fresh a o hz with hz' | hn'
    · have zk := C.zk a o hz'
      exact ⟨zk2.1, zk.2.1, zk.2.2.1, zk2.2.2.2.1, zk.2.2.2.2⟩
    · exact ⟨zk2.1, nL hn', fun p hp => ne hn' (C.ow _ (List.mem_map_of_mem hp)).1, zk2.2.2.2.1, .inr (ng hn')⟩
  · obtain ⟨h1, h2, h3, h4, h5, h6⟩ := C.kp k e
    obtain ⟨oC, es', ep, hCo, r⟩ := h1
    refine ⟨⟨oC, es', ep, kept _ _ hCo h4, r⟩, h2, h3, fun p hp => ?_, fun o ho => ?_, h6⟩
    · rcases σσ p hp with ⟨q, hq, e⟩ | hn'
      · rw [← e]; exact h4 q hq
      · exact (ne hn' hCo).symm
    · rcases fresh _ _ ho with hz' | hn'
      · exact h5 o hz'
      · rw [hCo] at hn'; cases hn'
  · obtain ⟨v, e1, e2⟩ := F.lov x d e
    exact ⟨v, e1, e2.mono zz⟩
  · rcases List.mem_cons.mp hp with rfl | hp
    · exact F2.tmp _ (.head _)
    · exact (F.tmp p hp).mono zz

theorem zip_is {Z : Kn} {x : Str} {d : D} : ∀ {names : List Str} {ds : List D} {vs : List Value}, IsL Z ds vs → (x, d) ∈ names.zip ds → ∃ v, (x, v) ∈ names.zip vs ∧ Is Z d v
  | [], _, _, _, h => by simp at h
  | _ :: _, _, _, .nil, h => by simp at h
  | n :: ns, _, _, .cons hi hr, h => by
    rw [List.zip_cons_cons] at h ⊢
    rcases List.mem_cons.mp h with e | h
    · cases e; exact ⟨_, .head _, hi⟩
    · obtain ⟨v, h1, h2⟩ := zip_is hr h
      exact ⟨v, .tail _ h1, h2⟩
theorem zip_sub {α : Type} : ∀ (names : List Str) (vs : List α), ((names.zip vs).map (·.1)).Sublist names
  | [], _ => by simp
  | _ :: _, [] => by simp
  | n :: ns, v :: vs => by simpa using (zip_sub ns vs)
theorem lookup_nodup {α : Type} {x : Str} {a : α} : ∀ {l : List (Str × α)}, (l.map (·.1)).Nodup → (x, a) ∈ l → l.lookup x = some a
  | (n, v) :: l, hn, h => by
    obtain ⟨h1, h2⟩ := List.nodup_cons.mp hn
    rw [List.lookup_cons]
    rcases List.mem_cons.mp h with e | h
    · cases e; simp
    · have : x ≠ n := fun e => h1 (e ▸ List.mem_map_of_mem (f := (·.1)) h)
      rw [beq_false_of_ne this]
      exact lookup_nodup h2 h
theorem caps_is {Z : Kn} {x : Str} {b : B} : ∀ {caps : List (Str × D)} {clos : List (Str × Addr)}, IsC Z caps clos → (caps.map fun p => (p.1, B.val p.2)).lookup x = some b → ∃ d ca co v, b = .val d ∧ clos.lookup x = some ca ∧ Z ca co ∧ co.data = .cell (some v) ∧ Is Z d v ∧ x ∈ caps.map (·.1)
  | _, _, .nil, h => by cases h
  | _, _, .cons (x := y) hz hd hi hr, h => by
    rw [List.map_cons, List.lookup_cons] at h
    cases q : x == y with
    | true =>
      rw [q] at h; cases h
      have := eq_of_beq q; subst this
      exact ⟨_, _, _, _, rfl, by simp, hz, hd, hi, .head _⟩
    | false =>
      rw [q] at h
      obtain ⟨d, ca, co, v, h1, h2, h3, h4, h5, h6⟩ := caps_is hr h
      exact ⟨d, ca, co, v, h1, by rw [List.lookup_cons, q]; exact h2, h3, h4, h5, .tail _ h6⟩

theorem Fn.lam_ {w : World} {k : Lam} {caps : List (Str × D)} {need : Nat} {ds : List D} {σ' : Sg} {r : D} (names : List Str)
    (hbind : ∀ clos pm c ctv vs, vs.length = ds.length → bindArgs (k.fd clos pm c ctv) ⟨vs, []⟩ = pure (names.zip vs)) (hn : names.Nodup) (hloc : ∀ y ∈ names, k.scope.names.lookup y = some .local) (hfree : ∀ y ∈ caps.map (·.1), k.scope.names.lookup y = some .free)
    (hcell : ∀ x ∈ k.scope.names, x.2 ≠ .cell) (hco : k.scope.isCoroutine = false) (hgen : k.scope.isGenerator = false) (hk : k.scope.kind = .function) (hσn : ∀ p ∈ σ, ∃ q ∈ σ', q.1 = p.1) (hneed : 1 ≤ need)
    (hb : ∀ c : Cx, c.w = w → c.room + 1 = need → Ev c k.scope .none σ (((names.zip ds).map fun p => (p.1, B.val p.2)) ++ caps.map fun p => (p.1, B.val p.2)) [] k.body σ' r) : FnV w (.fn k caps) need ds σ σ' r := by
  intro c S κ ρ lv T v vs s A R hw hh hdep hun hl F h
  subst hw
  have FT := F.top
  obtain ⟨σo, Z, hσ, own, m, lm, F⟩ := F
  have C := F.core
  have hfn := F.tmp (v, .fn k caps) (List.mem_append_right _ (.head _))
  have F0 : FsAt c S κ σo ρ lv T s Z own m lm := ⟨F.core, F.fn, F.var, F.lov, fun p hp => F.tmp p (List.mem_append_right _ (.tail _ hp))⟩
  cases hfn with
  | @fn f c1 fo co _ clos pm ctv _ hz hc hd hzc hq hcl =>
  obtain ⟨cvs, ct, hq1, hq2⟩ := hq
  refine kla_callFunE (by omega) (C.zk _ _ hz).1 hd hco hgen rfl ⟨c1, co, cvs, ct, rfl, (C.zk _ _ hzc).1, hq1, hq2⟩ ?_
  rw [hbind _ _ _ _ _ hl]
  have hns' : ∀ x : Str × Value, x ∈ names.zip vs → k.scope.names.lookup x.1 = some .local := fun x hx => hloc _ (List.of_mem_zip (show (x.1, x.2) ∈ _ from hx)).1
  refine wpAny_pure (wpAny_newFunctionEnv hcell hns' (fun h₁ hns hsb => ⟨FT.nolimit.fresh _ hsb, ?_⟩) hk)
  have hk₁ : ∀ b o, s.heap.get? b = some o → h₁.get? b = some o := fun b o e => hsb.extBut b o (Nat.ne_of_lt (Heap.lt_size e)) (Heap.get?_push_of_some _ e)
  let env' : Env := envX k.qual k.scope s.heap.objs.size f (.ref c1) clos
  let g := hideAll s.heap (σo.map (·.1))
  have gin : ∀ b o, s.heap.get? b = some o → (∀ p ∈ σo, b ≠ p.1) → g.get? b = some o := fun b o e n => hideAll_get _ e fun q => by
    obtain ⟨p, hp, e'⟩ := List.mem_map.mp q
    exact n p hp e'.symm
  have gout : ∀ b o, g.get? b = some o → s.heap.get? b = some o := fun b o e => of_hideAll _ e
  have cg : ∀ b o, c.g.get? b = some o → g.get? b = some o := fun b o e => gin b o (C.fr.keep b o e) fun p hp q => by
    have := (C.sg p hp).2.2; rw [← q, e] at this; cases this
  have gσ : ∀ p ∈ σo, g.get? p.1 = none := fun p hp => hideAll_none _ (List.mem_map_of_mem hp)
  let c' : Cx := { c with A := A.deeper env', cn := k.qual, L := s.heap.objs.size, a := f, ccd := .ref c1, cl := clos, g := g, Z0 := Z, room := need - 1 }
  have ok' : c'.Ok := by
    refine ⟨C.ok.K.keeps cg, C.ok.top.keeps cg, hh, ?_, ?_, C.ok.gr.keeps cg⟩
    · show A.depth + 1 + (need - 1) < _; omega
    · show A.units + 3 + 8 * (need - 1) + 64 < _; omega
  have core' : Core c' .none σo Z [] (fun x => (names.zip vs).reverse.lookup x) (fun _ => none) { s with heap := h₁, toks := s.toks + (names.zip vs).length } := by
    refine ⟨ok', ?_, ⟨hns, fun b o e => hk₁ b o (gout b o e), ?_⟩, fun p hp => ⟨hk₁ _ _ (C.sg p hp).1, Nat.ne_of_lt (Heap.lt_size (C.sg p hp).1), gσ p hp⟩, (fun p hp => by cases hp), ?_, fun a o hz => ?_, fun a o hz => hz, fun k e => (by cases e)⟩
    · have := C.sh; rw [this]
    · show (hideAll s.heap _).objs.size ≤ _; rw [hideAll_size]; exact Nat.le_refl _
    · exact (List.pairwise_append.mp C.dj).2.1
    · have zk := C.zk a o hz
      exact ⟨hk₁ _ _ zk.1, Nat.ne_of_lt (Heap.lt_size zk.1), (fun p hp => by cases hp), zk.2.2.2.1, .inl hz⟩
  have hI : IsL Z ds vs := IsL.of_zip hl fun p hp => F.tmp p (List.mem_append_left _ hp)
  have F' : Fs c' k.scope .none σ (((names.zip ds).map fun p => (p.1, B.val p.2)) ++ caps.map fun p => (p.1, B.val p.2)) [] [] { s with heap := h₁, toks := s.toks + (names.zip vs).length } := by
    refine ⟨σo, Z, hσ, [], _, _, core', hk, fun x b hx => ?_, fun x d e => (by cases e), fun p hp => (by cases hp)⟩
    rcases lookup_app _ _ hx with hx | ⟨_, hx⟩
    · obtain ⟨d, rfl⟩ := lookup_val _ _ hx
      have hx' := lookup_zip _ _ hx
      obtain ⟨u, hu, hi⟩ := zip_is hI (mem_lookup hx')
      have hxn : x ∈ names := (List.of_mem_zip (mem_lookup hx')).1
      refine .loc (hloc _ hxn) (lookup_nodup ?_ (List.mem_reverse.mpr hu)) (.val hi)
      rw [List.map_reverse]
      have : ((names.zip vs).map (·.1)).Sublist names := zip_sub names vs
      exact List.pairwise_reverse.mpr ((List.Pairwise.sublist this hn).imp fun h => h.symm)
    · obtain ⟨d, ca, co', u, rfl, h2, h3, h4, h5, h6⟩ := caps_is hcl hx
      exact .free (hfree _ h6) h2 h3 h4 h5
  show codeAny _ _ (.expr k.body (envX k.qual k.scope s.heap.objs.size f (.ref c1) clos)) _ _
  exact kla_codeExpr (wpAny_mono (hb c' rfl (by show need - 1 + 1 = need; omega) [] _ _ F' fun u s2 F2 => h u s2 (leave (c' := c') F0 hσ rfl rfl ⟨rfl, rfl, rfl⟩ hσn (F2.weaken (fun _ _ e => by cases e) (fun _ _ e => by cases e) fun _ hp => hp))) (fun _ _ q => q) fun _ _ e => e.elim)

/-- an instance's own function is called -/
structure Ov (w : World) (C : Addr) (name : Str) : Prop where
  at_ : At w C name
  none_ : findIn (hd.heap_1 w.params) (.ref C) name = some none
theorem Ev.vcall {value : Expr} {name : Str} {apos pos : Pos} {e : Expr} {es : List Expr} {C : Addr} {fs : List (Str × D)} {ds : List D} {r : D} {need : Nat} {k : Lam} {caps : List (Str × D)} (h1 : Ev c S κ σ ρ lv value σ1 (.obj C fs)) (hm : Ov c.w C name) (hf : fs.lookup name = some (.fn k caps))
    (h2 : EvL c S κ σ1 ρ lv (e :: es) σ2 ds) (hv : FnV c.w (.fn k caps) need ds σ2 σ3 r) (hr : need ≤ c.room)
    (h3 : ∀ env, starEach (e :: es) env = (false, eval e env) :: starEach es env := by intro _; rfl) (h4 : ∀ env pos, ((backTo pos (starEach es env)).any fun x => x.1) = false := by intros; rfl)
    (pl : Env → Sem Bool := fun env => (do return (← importBound value env).getD true))
    (he : ∀ env, eval (.Call (.Attribute value name apos) (e :: es) [] pos) env = (do
      let ov ← eval value env
      standAt apos.atName
      let (f, first) ← holding [ov] (getMethod ov name (pl env))
      callWith pos f first (backTo pos (starEach (e :: es) env)) []) := by intro _; rfl) : Ev c S κ σ ρ lv (.Call (.Attribute value name apos) (e :: es) [] pos) σ3 r := fun T s Q F h => by
  refine MethodCall_ (pl := pl (envAt c S κ)) (h1 T s _ F fun v s1 F1 => ?_) (he _)
  have F1' := F1
  obtain ⟨σo, Z, hσ, own, m, lm, F1⟩ := F1
  have hi := F1.tmp _ (.head _)
  cases hi with
  | @obj x dx _ ox es' n' _ hx hc hn' hdx hz hfs =>
    have I : InstAt s1.heap x ox C (some (dictOf es' n')) := ⟨(F1.core.zk _ _ hx).1, hc, hn', by rw [hdx]; exact (F1.core.zk _ _ hz).1⟩
    refine kmu_own F1.core.fr F1.core.ok.K I hm.at_.plain hm.none_ (getAttr_fs F1' hm.at_ hf rfl fun u s2 F2 => ?_)
    obtain ⟨f, rfl⟩ : ∃ f, u = .ref f := by
      obtain ⟨Z', hu⟩ := F2.is (.head _)
      cases hu with
      | fn => exact ⟨_, rfl⟩
    refine (?_ : wpAny (model PG c.w) c.A (callWith pos (.ref f) [] (backTo pos (starEach (e :: es) (envAt c S κ))) []) Q NoE s2)
    have hs := h2.2 _ pos s2 (fun vs s3 => (∃ o fd, s3.heap.get? f = some o ∧ o.data = .func fd) ∧ wpAny (model PG c.w) c.A (PySem.call (.ref f) ([] ++ vs)) Q NoE s3) F2 fun vs s3 hl F3 => ?_
    · rw [h3] at hs ⊢
      refine callWith_of (P := fun hp => ∃ o fd, hp.get? f = some o ∧ o.data = .func fd) (by show ((false || (backTo pos (starEach es _)).any (·.1)) || false) = false; rw [h4]; rfl) (fun hp hP => ?_) (evalArgs_plain hs)
      obtain ⟨⟨cls, dd, dat, sl⟩, fd, ho, hd⟩ := hP
      change dat = .func fd at hd
      subst hd
      exact ⟨.frame, .inl rfl, (Looks.ld (part := Option.none) ho).andThen .now⟩
    · have F3' := F3
      obtain ⟨σo3, Z3, hσ3, own3, m3, lm3, F3⟩ := F3'
      have hfn := F3.tmp (.ref f, .fn k caps) (List.mem_append_right _ (.head _))
      refine ⟨?_, ?_⟩
      · cases hfn with
        | fn hz hc hd _ _ _ => exact ⟨_, _, (F3.core.zk _ _ hz).1, hd⟩
      · refine wpAny_call ?_
        have ok := F3.core.ok
        exact hv c S κ ρ lv T (.ref f) vs s3 c.A _ rfl ok.handled (by have := ok.depth; omega) (by have := ok.units; omega) hl ‹_› fun u s4 F4 => h u s4 F4
end
end Mine
namespace Mine
section
variable {c : Cx} {S : Scope} {κ : Option Kp} {σ σ1 σ2 σ3 : Sg} {ρ ρ1 ρ2 : Rho} {lv : List (Str × D)} {T : List (Value × D)} {s : Shared}

theorem Core.sigToOwn {σ : Led} {x : Str} {a : Addr} {o : Obj} {Z : Kn} {own : Own} {m lm : Str → Option Value} (C : Core c κ ((a, o) :: σ) Z own m lm s) : Core c κ σ Z ((x, a, o) :: own) m lm s := by
  have ha := C.sg (a, o) (.head _)
  obtain ⟨d1, d2, d3⟩ := List.pairwise_append.mp C.dj
  obtain ⟨d4, d5⟩ := List.pairwise_cons.mp d2
  refine ⟨C.ok, C.sh, C.fr, fun p hp => C.sg p (.tail _ hp), fun p hp => ?_, ?_, fun b ob hz => ?_, C.z0, fun kk e => ?_⟩
  · rw [List.map_cons] at hp
    rcases List.mem_cons.mp hp with rfl | hp
    · exact ha
    · exact C.ow p hp
  · rw [List.map_cons, List.cons_append]
    refine List.pairwise_cons.mpr ⟨fun p hp => ?_, List.pairwise_append.mpr ⟨d1, d5, fun p hp q hq => d3 p hp q (.tail _ hq)⟩⟩
    rcases List.mem_append.mp hp with hp | hp
    · exact (d3 p hp _ (.head _)).symm
    · exact d4 p hp
  · have zk := C.zk b ob hz
    refine ⟨zk.1, zk.2.1, fun p hp => ?_, fun p hp => zk.2.2.2.1 p (.tail _ hp), zk.2.2.2.2⟩
    rcases List.mem_cons.mp hp with rfl | hp
    · exact zk.2.2.2.1 (a, o) (.head _)
    · exact zk.2.2.1 p hp
  · obtain ⟨h1, h2, h3, h4, h5, h6⟩ := C.kp kk e
    refine ⟨h1, h2, fun p hp => ?_, fun p hp => h4 p (.tail _ hp), h5, h6⟩
    rcases List.mem_cons.mp hp with rfl | hp
    · exact h4 (a, o) (.head _)
    · exact h3 p hp
theorem VarIs.ownCons {Z : Kn} {own : Own} {m : Str → Option Value} {q : Str × Addr × Obj} {y : Str} {b : B} (h : VarIs c S Z own m y b) : VarIs c S Z (q :: own) m y b := by
  cases h with
  | loc hk hv h =>
    refine .loc hk hv ?_
    cases h with
    | val h => exact .val h
    | own hm ho hl => exact .own (.tail _ hm) ho hl
    | obj hx hc hn hd hm hf => exact .obj hx hc hn hd (.tail _ hm) hf
  | cell hk hc hm hd h => exact .cell hk hc (.tail _ hm) hd h
  | free hk hc hz hd h => exact .free hk hc hz hd h
  | frozen hk hc hz hd h => exact .frozen hk hc hz hd h
  | unset hk hc hm hd => exact .unset hk hc (.tail _ hm) hd

/-- a class call whose instance is told apart -/
noncomputable def FnO (w : World) (C : Addr) (need : Nat) (ds : List D) (σ : Sg) (fs : List (Str × D)) : Prop :=
  ∀ (c : Cx) (S : Scope) (κ : Option Kp) (ρ : Rho) (lv : List (Str × D)) (T : List (Value × D)) (vs : List Value) (s : Shared) (A : Around) (R : Result → Shared → Prop) (σo : Led) (Z : Kn) (own : Own) (m lm : Str → Option Value),
      c.w = w → A.handled = none → A.depth + need < recursionLimit → A.units + 8 * need + 64 < cLine → vs.length = ds.length → Rl Z σ σo → FsAt c S κ σo ρ lv (zipT vs ds T) s Z own m lm →
      (∀ (x₀ dx : Addr) (σ2 : Led) (Z2 : Kn) (ox : Obj) (es2 : List DictEntry) (n2 : Nat) (s2 : Shared), Rl Z2 σ σ2 → Core c κ ((dx, dictOf es2 n2) :: σ2) Z2 own m lm s2 → (∀ a o, Z a o → Z2 a o) → Z2 x₀ ox → ox.cls = .ref C → notCls ox = true → ox.dict = some dx → IsF Z2 fs es2 → R (.ok (.ret (.ref x₀))) s2) →
      codeAny (model PG w) A (.call (.ref C) ⟨vs, []⟩) R s
/-- x = Cls(e, ..): x is still being made -/
theorem Ex.newObj {x f : Str} {C : Addr} {need : Nat} {p p' cpos pos : Pos} {e : Expr} {es : List Expr} {ds : List D} {fs : List (Str × D)} {rest : List Stmt} {P : Flow → Shared → Prop} (g : Gl c.w f (.ref C)) (h1 : EvL c S .none σ ρ [] (e :: es) σ1 ds) (hf : FnO c.w C need ds σ1 fs) (hr : need ≤ c.room)
    (h2 : ∀ x₀ dx, Ex c S σ1 ((x, .obj x₀ dx C fs) :: ρ) rest P) (hkx : S.names.lookup x = some .local := by rfl)
    (hk : ∀ L a ccd cl cn, (envX cn S L a ccd cl).kindOf f = some .globalImplicit := by intros; rfl) (hd : (f == ("__debug__" : Str)) = false := by decide)
    (he : ∀ env, starEach (e :: es) env = (false, eval e env) :: starEach es env := by intro _; rfl) (hp : ∀ env pos, ((backTo pos (starEach es env)).any fun x => x.1) = false := by intros; rfl)
    (hs : ∀ env, swapsWith (.Call (.Name f p) (e :: es) [] cpos) (some (.Name x p')) pos.line env = pure false := by intro _; rfl) :
    Ex c S σ ρ (.Assign [.Name x p'] (.Call (.Name f p) (e :: es) [] cpos) pos :: rest) P := Ex.step fun s F => by
  refine wpAny_Assign_Name (wpAny_Call_NameR (name_glob F g.at_ (callWith_K F.K g.keep ?_ (he _) (hp _ _)) (hk _ _ _ _ _) hd)) (hs _)
  refine h1.2 [] cpos s _ F fun vs s1 hl F1 => ⟨F1.K, wpAny_call ?_⟩
  have ok := F1.ok
  obtain ⟨σo, Z, hσ, own, m, lm, F1⟩ := F1
  refine hf c S .none ρ [] [] vs s1 c.A _ σo Z own m lm rfl ok.handled (by have := ok.depth; omega) (by have := ok.units; omega) hl hσ F1 fun x₀ dx σ2 Z2 ox es2 n2 s2 hσ2 C2 le hz hc hn hdx hfs => ?_
  have C3 := C2.sigToOwn (x := x)
  refine wpAny_storeName_local (env := envAt c S .none) hkx C3.fr.ns (fun h' hn' hs' => h2 x₀ dx _ ⟨σ2, Z2, hσ2, _, _, lm, store_core C3 hn' hs', F1.fn, fun y b e => ?_, fun x d e => (by cases e), fun p hp => by cases hp⟩) ?_
  · rcases lookup_set e with ⟨rfl, rfl⟩ | ⟨hne, e⟩
    · exact .loc hkx (if_pos rfl) (.obj hz hc hn hdx (.head _) hfs)
    · exact (((F1.var y b e).mono le).ownCons).store hne
  · show (S.kind == .class || (S.kind == .module && c.L != mainGlobals)) = false
    rw [F1.fn]; rfl
/-- self is left alone from here on -/
theorem Ex.freezeObj {x : Str} {x₀ dx C : Addr} {fs : List (Str × D)} {sts : List Stmt} {P : Flow → Shared → Prop} (hx : ρ.lookup x = some (.obj x₀ dx C fs)) (h : Ex c S σ ((x, .val (.obj C fs)) :: ρ) sts P) (hk : S.names.lookup x = some .local := by rfl) : Ex c S σ ρ sts P := fun s F => by
  obtain ⟨σo, Z, hσ, own, m, lm, F⟩ := F
  cases F.var _ _ hx with
  | loc _ hv hb =>
    cases hb with
    | @obj _ _ _ ox es n _ hx0 hc hn hdx hm hfs =>
      obtain ⟨pre, post, rfl⟩ := List.append_of_mem hm
      have C := F.core
      have hd := C.dj
      rw [List.map_append, List.map_cons, List.append_assoc, List.cons_append] at hd
      obtain ⟨d1, d2, d3⟩ := List.pairwise_append.mp hd
      obtain ⟨d4, d5⟩ := List.pairwise_cons.mp d2
      have hw := C.ow (dx, dictOf es n) (List.mem_map.mpr ⟨(x, dx, dictOf es n), List.mem_append_right _ (.head _), rfl⟩)
      have sub : ∀ {p : Str × Addr × Obj}, p ∈ pre ++ post → p ∈ pre ++ (x, dx, dictOf es n) :: post := fun hp => by
        rcases List.mem_append.mp hp with hp | hp
        · exact List.mem_append_left _ hp
        · exact List.mem_append_right _ (.tail _ hp)
      have tr : ∀ {y : Str} {a : Addr} {oa : Obj}, y ≠ x → (y, a, oa) ∈ pre ++ (x, dx, dictOf es n) :: post → (y, a, oa) ∈ pre ++ post := fun hy h => by
        rcases List.mem_append.mp h with h | h
        · exact List.mem_append_left _ h
        · rcases List.mem_cons.mp h with e | h
          · cases e; exact absurd rfl hy
          · exact List.mem_append_right _ h
      have le : ∀ a o', Z a o' → Z a o' ∨ (a = dx ∧ o' = dictOf es n) := fun _ _ h => .inl h
      have C' : Core c .none σo (fun a o' => Z a o' ∨ (a = dx ∧ o' = dictOf es n)) (pre ++ post) m lm s := by
        refine ⟨C.ok, C.sh, C.fr, C.sg, fun p hp => ?_, ?_, fun a o' hz => ?_, fun a o' hz => .inl (C.z0 a o' hz), fun k e => by cases e⟩
        · obtain ⟨q, hq, rfl⟩ := List.mem_map.mp hp
          exact C.ow _ (List.mem_map_of_mem (sub hq))
        · rw [List.map_append, List.append_assoc]
          exact List.pairwise_append.mpr ⟨d1, d5, fun p hp q hq => d3 p hp q (.tail _ hq)⟩
        · rcases hz with hz | ⟨rfl, rfl⟩
          · have zk := C.zk a o' hz
            exact ⟨zk.1, zk.2.1, fun p hp => zk.2.2.1 p (sub hp), zk.2.2.2⟩
          · refine ⟨hw.1, hw.2.1, fun p hp => ?_, fun p hp => d4 p (List.mem_append_right _ hp), .inr hw.2.2⟩
            rcases List.mem_append.mp hp with hp | hp
            · exact (d3 p.2 (List.mem_map_of_mem hp) _ (.head _)).symm
            · exact d4 p.2 (List.mem_append_left _ (List.mem_map_of_mem hp))
      refine h s ⟨σo, _, hσ.mono le, pre ++ post, m, lm, C', F.fn, fun y b hy => ?_, fun y d e => (by cases e), fun p hp => by cases hp⟩
      rcases lookup_set hy with ⟨rfl, rfl⟩ | ⟨hne, hy⟩
      · exact .loc hk hv (.val (.obj (.inl hx0) hc hn hdx (.inr ⟨rfl, rfl⟩) (hfs.mono le)))
      · cases F.var y b hy with
        | loc hk hv hb =>
          refine .loc hk hv ?_
          cases hb with
          | val h => exact .val (h.mono le)
          | own hm ho hl => exact .own (tr hne hm) ho (hl.mono le)
          | obj hx hc hn hd hm hf => exact .obj (le _ _ hx) hc hn hd (tr hne hm) (hf.mono le)
        | cell hk hc hm hd h => exact .cell hk hc (tr hne hm) hd (h.mono le)
        | free hk hc hz hd h => exact .free hk hc (le _ _ hz) hd (h.mono le)
        | frozen hk hc hz hd h => exact .frozen hk hc (le _ _ hz) hd (h.mono le)
        | unset hk hc hm hd => exact .unset hk hc (tr hne hm) hd
/-- a cell is left alone from here on -/
theorem Ex.freezeCell {x : Str} {d : D} {sts : List Stmt} {P : Flow → Shared → Prop} (hx : ρ.lookup x = some (.val d)) (h : Ex c S σ ((x, .froz d) :: ρ) sts P) (hk : S.names.lookup x = some .cell := by rfl) : Ex c S σ ρ sts P := fun s F => by
  obtain ⟨σo, Z, hσ, own, m, lm, F⟩ := F
  cases F.var _ _ hx with
  | loc hk' _ _ => rw [hk] at hk'; cases hk'
  | free hk' _ _ _ _ => rw [hk] at hk'; cases hk'
  | @cell _ v ca o _ hcl hm hdat hi =>
    obtain ⟨pre, post, rfl⟩ := List.append_of_mem hm
    have C := F.core
    have hd := C.dj
    rw [List.map_append, List.map_cons, List.append_assoc, List.cons_append] at hd
    obtain ⟨d1, d2, d3⟩ := List.pairwise_append.mp hd
    obtain ⟨d4, d5⟩ := List.pairwise_cons.mp d2
    have hw := C.ow (ca, o) (List.mem_map.mpr ⟨(x, ca, o), List.mem_append_right _ (.head _), rfl⟩)
    have sub : ∀ {p : Str × Addr × Obj}, p ∈ pre ++ post → p ∈ pre ++ (x, ca, o) :: post := fun hp => by
      rcases List.mem_append.mp hp with hp | hp
      · exact List.mem_append_left _ hp
      · exact List.mem_append_right _ (.tail _ hp)
    have tr : ∀ {y : Str} {a : Addr} {oa : Obj}, y ≠ x → (y, a, oa) ∈ pre ++ (x, ca, o) :: post → (y, a, oa) ∈ pre ++ post := fun hy h => by
      rcases List.mem_append.mp h with h | h
      · exact List.mem_append_left _ h
      · rcases List.mem_cons.mp h with e | h
        · cases e; exact absurd rfl hy
        · exact List.mem_append_right _ h
    have le : ∀ a o', Z a o' → Z a o' ∨ (a = ca ∧ o' = o) := fun _ _ h => .inl h
    have C' : Core c .none σo (fun a o' => Z a o' ∨ (a = ca ∧ o' = o)) (pre ++ post) m lm s := by
      refine ⟨C.ok, C.sh, C.fr, C.sg, fun p hp => ?_, ?_, fun a o' hz => ?_, fun a o' hz => .inl (C.z0 a o' hz), fun k e => by cases e⟩
      · obtain ⟨q, hq, rfl⟩ := List.mem_map.mp hp
        exact C.ow _ (List.mem_map_of_mem (sub hq))
      · rw [List.map_append, List.append_assoc]
        exact List.pairwise_append.mpr ⟨d1, d5, fun p hp q hq => d3 p hp q (.tail _ hq)⟩
      · rcases hz with hz | ⟨rfl, rfl⟩
        · have zk := C.zk a o' hz
          exact ⟨zk.1, zk.2.1, fun p hp => zk.2.2.1 p (sub hp), zk.2.2.2⟩
        · refine ⟨hw.1, hw.2.1, fun p hp => ?_, fun p hp => d4 p (List.mem_append_right _ hp), .inr hw.2.2⟩
          rcases List.mem_append.mp hp with hp | hp
          · exact (d3 p.2 (List.mem_map_of_mem hp) _ (.head _)).symm
          · exact d4 p.2 (List.mem_append_left _ (List.mem_map_of_mem hp))
    refine h s ⟨σo, _, hσ.mono le, pre ++ post, m, lm, C', F.fn, fun y b hy => ?_, fun y d e => (by cases e), fun p hp => by cases hp⟩
    rcases lookup_set hy with ⟨rfl, rfl⟩ | ⟨hne, hy⟩
    · exact .frozen hk hcl (.inr ⟨rfl, rfl⟩) hdat (hi.mono le)
    · cases F.var y b hy with
      | loc hk hv hb =>
        refine .loc hk hv ?_
        cases hb with
        | val h => exact .val (h.mono le)
        | own hm ho hl => exact .own (tr hne hm) ho (hl.mono le)
        | obj hx hc hn hd hm hf => exact .obj (le _ _ hx) hc hn hd (tr hne hm) (hf.mono le)
      | cell hk hc hm hd h => exact .cell hk hc (tr hne hm) hd (h.mono le)
      | free hk hc hz hd h => exact .free hk hc (le _ _ hz) hd (h.mono le)
      | frozen hk hc hz hd h => exact .frozen hk hc (le _ _ hz) hd (h.mono le)
      | unset hk hc hm hd => exact .unset hk hc (tr hne hm) hd
end
end Mine
namespace Mine
/-- the codes that a def's lambdas have left, by place -/
noncomputable def trip : List (Int × Int) → List Addr → List Value
  | e :: es, c :: cs => rawInt e.1 :: rawInt e.2 :: .ref c :: trip es cs
  | _, _ => []
theorem trip_ok : ∀ (es : List (Int × Int)) (cs : List Addr), TriplesOk (trip es cs)
  | [], _ => by simp [trip, TriplesOk]
  | _ :: _, [] => by simp [trip, TriplesOk]
  | _ :: es, _ :: cs => by
    have := trip_ok es cs
    simpa [trip, TriplesOk, rawInt] using this
theorem trip_snoc {e : Int × Int} {c : Addr} : ∀ {es : List (Int × Int)} {cs : List Addr}, es.length = cs.length → trip (es ++ [e]) (cs ++ [c]) = trip es cs ++ [rawInt e.1, rawInt e.2, .ref c]
  | [], [], _ => rfl
  | _ :: es, _ :: cs, h => by
    have := trip_snoc (e := e) (c := c) (es := es) (cs := cs) (by simpa using h)
    simp [trip, this]
  | [], _ :: _, h => by simp at h
  | _ :: _, [], h => by simp at h
theorem among_none {pos : Pos} : ∀ {es : List (Int × Int)} {cs : List Addr}, (∀ e ∈ es, ¬ (e.1 = pos.line ∧ e.2 = pos.col)) → codeAmong pos (trip es cs) = none
  | [], _, _ => by simp [trip, codeAmong]
  | _ :: _, [], _ => by simp [trip, codeAmong]
  | e :: es, c :: cs, h => by
    have ih := among_none (pos := pos) (es := es) (cs := cs) fun e he => h e (.tail _ he)
    have h0 := h e (.head _)
    simp only [trip, codeAmong, rawInt]
    rw [if_neg (by simpa using h0)]
    exact ih
theorem among_some {pos : Pos} : ∀ {es : List (Int × Int)} {cs : List Addr}, es.length = cs.length → ((pos.line : Int), (pos.col : Int)) ∈ es → ∃ c ∈ cs, codeAmong pos (trip es cs) = some (.ref c)
  | [], _, _, h => by cases h
  | _ :: _, [], hl, _ => by simp at hl
  | e :: es, c :: cs, hl, h => by
    simp only [trip, codeAmong, rawInt]
    by_cases q : (e.1 == (pos.line : Int) && e.2 == (pos.col : Int)) = true
    · exact ⟨c, .head _, if_pos q⟩
    · rw [if_neg q]
      rcases List.mem_cons.mp h with h | h
      · subst h; simp at q
      · obtain ⟨c', h1, h2⟩ := among_some (pos := pos) (es := es) (cs := cs) (by simpa using hl) h
        exact ⟨c', .tail _ h1, h2⟩
noncomputable def isCode (q : Str) (co : Obj) : Prop := ∃ vs t, co.data = .fields vs ∧ vs[1]? = some (.str q t)
noncomputable def TabP (q : Str) (es : List (Int × Int)) : SO where
  P := fun Z o => ∃ cs : List Addr, es.length = cs.length ∧ o = tabObj (trip es cs).toArray ∧ ∀ c ∈ cs, ∃ co, Z c co ∧ isCode q co
  mono := fun k h => by
    obtain ⟨cs, h1, h2, h3⟩ := h
    refine ⟨cs, h1, h2, fun c hc => ?_⟩
    obtain ⟨co, a, b⟩ := h3 c hc
    exact ⟨co, k _ _ a, b⟩
section
variable {c : Cx} {S : Scope} {κ : Option Kp} {σ σ1 σ2 σ3 : Sg} {ρ ρ1 ρ2 : Rho} {lv : List (Str × D)} {T : List (Value × D)} {s : Shared}

theorem lamCore {params : Arguments} {body : Expr} {scope : Scope} {pos : Pos} {es es' : List (Int × Int)} {q : Str} {caps : List (Str × D)} (hccd : c.ccd = .ref 482) (hq : c.cn ++ ".<locals>." ++ "<lambda>" = q)
    (hdef : defaultsOf params (envAt c S .none) = ([], []))
    (hclos : ∀ {σo Z own m lm T s}, FsAt c S .none σo ρ lv T s Z own m lm → ∃ clos, closureFor scope (envAt c S .none) = pure clos ∧ IsC Z caps clos)
    (hpos : (∀ e ∈ es, ¬ (e.1 = pos.line ∧ e.2 = pos.col)) ∧ es' = es ++ [((pos.line : Int), (pos.col : Int))] ∨ ((pos.line : Int), (pos.col : Int)) ∈ es ∧ es' = es) :
    Ev c S .none (σ1 ++ (478, TabP q es) :: σ2) ρ lv (.Lambda params body scope pos) (σ1 ++ (478, TabP q es') :: σ2) (.fn ⟨"<lambda>", q, params, body, scope⟩ caps) := fun T s Q F h => by
  obtain ⟨σo, Z, hσ, own, m, lm, F⟩ := F
  obtain ⟨clos, hcl, hic⟩ := hclos F
  obtain ⟨l1, l2, o, rfl, ⟨cs, hlen, rfl, hcs⟩, r1, r2⟩ := hσ.at
  have C := F.core
  have hm := C.sg (478, tabObj (trip es cs).toArray) (List.mem_append_right _ (.head _))
  have hgs := (C.glob.2).g
  have hgP : mainGlobals ≠ 478 := fun e => by
    obtain ⟨o, _, _, ho, _⟩ := C.ok.top.g
    rw [e, hm.2.2] at ho; cases ho
  obtain ⟨bm, ob, b1, b2, b3, b4, b5, b6⟩ := C.ok.gr.bm
  have b3' := C.fr.keep _ _ b3
  have hbP : bm ≠ 478 := fun e => by rw [e, hm.2.2] at b3; cases b3
  have hbG : bm ≠ mainGlobals := fun e => by
    obtain ⟨o, es, ep, e', hd, _⟩ := C.ok.top.g
    rw [e, e'] at b3; cases b3; rw [hd] at b6; cases b6
  have hB : s.heap.BuiltinsAt c.mg 478 := ⟨bm, ob, b1, b2, hbG, hbP, b3', b4, b5, b6⟩
  refine kla_eval hdef ?_
  rw [show (envAt c S .none).qual ++ "<lambda>" = q from hq]
  have ht : TriplesOk (trip es cs).toArray.toList := trip_ok es cs
  have old : ∀ {Z' : Kn}, (∀ a o, Z a o → Z' a o) → ∀ (cs0 : List Addr), (∀ c ∈ cs0, ∃ co, Z c co ∧ isCode q co) → ∀ c ∈ cs0, ∃ co, Z' c co ∧ isCode q co := fun k cs0 h c hc => let ⟨co, a, b⟩ := h c hc; ⟨co, k _ _ a, b⟩
  rcases hpos with ⟨hnp, rfl⟩ | ⟨hin, rfl⟩
  · refine kla_makeFunction (mg := c.mg) hcl rfl hgs hccd (C.ok.gr.code.keeps C.fr.keep) hm.1 ht (among_none hnp) hgP hB fun c' ctv h' tk hx hge hlt hrec htb => ?_
    obtain ⟨c2, oc, vs, t, e2, hoc, hd, hv⟩ := hrec
    cases e2
    have keep : ∀ b ob, b ≠ 478 → s.heap.get? b = some ob → (h'.push (kla_obj "<lambda>" q params body scope clos ((c.mg "__name__").getD .none) c' ctv)).get? b = some ob := fun b ob hb e => Heap.get?_push_of_some _ (hx b ob hb e)
    have hszlt : ∀ {b : Addr} {ob : Obj}, s.heap.get? b = some ob → b < h'.objs.size := fun e => Nat.lt_of_lt_of_le (Heap.lt_size e) (Nat.le_trans hge (Nat.le_of_lt hlt))
    have nf : s.heap.get? h'.objs.size = none := by
      cases q : s.heap.get? h'.objs.size with
      | none => rfl
      | some o' => exact absurd (hszlt q) (Nat.lt_irrefl _)
    have nc : s.heap.get? c' = none := by
      cases q : s.heap.get? c' with
      | none => rfl
      | some o' => exact absurd (Heap.lt_size q) (Nat.not_lt.mpr hge)
    let W : Kn := fun a o => (a = c' ∧ o = oc) ∨ (a = h'.objs.size ∧ o = kla_obj "<lambda>" q params body scope clos ((c.mg "__name__").getD .none) c' ctv)
    have C1 := (show Core (c.at_ c.Z0) .none ([(478, tabObj (trip es cs).toArray)] ++ (l1 ++ l2)) Z own m lm s from C.front).turn (E' := [(478, tabObj ((trip es cs).toArray ++ #[rawInt pos.line, rawInt pos.col, .ref c']))]) (h' := h'.push (kla_obj "<lambda>" q params body scope clos ((c.mg "__name__").getD .none) c' ctv)) tk (W := W) rfl
      (fun p hp => by rw [List.mem_singleton.mp hp]; exact Heap.get?_push_of_some _ htb) (fun b ob hb e => keep b ob (fun q => hb (by rw [q]; exact .head _)) e) (fun a o hW => by
        rcases hW with ⟨rfl, rfl⟩ | ⟨rfl, rfl⟩
        · exact ⟨Heap.get?_push_of_some _ hoc, nc⟩
        · exact ⟨Heap.get?_push_size _ rfl, nf⟩)
    have C2 : Core c .none (l1 ++ (478, tabObj ((trip es cs).toArray ++ #[rawInt pos.line, rawInt pos.col, .ref c'])) :: l2) (fun a o => Z a o ∨ W a o) own m lm _ := Core.middle C1
    have le : ∀ a o, Z a o → Z a o ∨ W a o := fun _ _ h => .inl h
    refine h _ _ ⟨_, _, Rl.join ⟨cs ++ [c'], by simp [hlen], ?_, fun c0 hc0 => ?_⟩ (r1.mono le) (r2.mono le), own, m, lm, C2, F.fn, fun x b e => (F.var x b e).mono le, fun x d e => ?_, fun p hp => ?_⟩
    · rw [trip_snoc hlen]; simp
    · rcases List.mem_append.mp hc0 with hc0 | hc0
      · exact old le cs hcs c0 hc0
      · rw [List.mem_singleton.mp hc0]
        exact ⟨oc, .inr (.inl ⟨rfl, rfl⟩), vs, t, hd, hv⟩
    · obtain ⟨v, e1, e2⟩ := F.lov x d e
      exact ⟨v, e1, e2.mono le⟩
    · rcases List.mem_cons.mp hp with rfl | hp
      · exact .fn (.inr (.inr ⟨rfl, rfl⟩)) rfl rfl (.inr (.inl ⟨rfl, rfl⟩)) ⟨vs, t, hd, hv⟩ (hic.mono le)
      · exact (F.tmp p hp).mono le
  · obtain ⟨c', hc', hf⟩ := among_some (pos := pos) hlen hin
    obtain ⟨co, hz, vs, t, hd, hv⟩ := hcs c' hc'
    refine kla_makeFunctionHit (mg := c.mg) hcl rfl hgs hccd (C.ok.gr.code.keeps C.fr.keep) hm.1 ht hf hB fun ctv h' tk hk hsz => ?_
    let fo : Obj := { cls := .type "function", data := .func (kla_fn "<lambda>" q params body scope clos ((c.mg "__name__").getD .none) (.ref c') ctv) }
    have nf : s.heap.get? h'.objs.size = none := by
      cases q : s.heap.get? h'.objs.size with
      | none => rfl
      | some o' => exact absurd (Nat.lt_of_lt_of_le (Heap.lt_size q) hsz) (Nat.lt_irrefl _)
    have C1 := C.learn (W := fun a o => a = h'.objs.size ∧ o = fo) (h' := h'.push fo) tk (fun b ob e => Heap.get?_push_of_some _ (hk b ob e)) (by rintro a o ⟨rfl, rfl⟩; exact Heap.get?_push_size _ rfl) (by rintro a o ⟨rfl, _⟩; exact nf)
    have le : ∀ a o, Z a o → Z a o ∨ (a = h'.objs.size ∧ o = fo) := fun _ _ h => .inl h
    refine h _ _ ⟨_, _, hσ.mono le, own, m, lm, C1, F.fn, fun x b e => (F.var x b e).mono le, fun x d e => ?_, fun p hp => ?_⟩
    · obtain ⟨v, e1, e2⟩ := F.lov x d e
      exact ⟨v, e1, e2.mono le⟩
    · rcases List.mem_cons.mp hp with rfl | hp
      · exact .fn (.inr ⟨rfl, rfl⟩) rfl rfl (.inl hz) ⟨vs, t, hd, hv⟩ (hic.mono le)
      · exact (F.tmp p hp).mono le
/-- a lambda with no free name -/
theorem ev_lam0 {params : Arguments} {body : Expr} {scope : Scope} {pos : Pos} {es es' : List (Int × Int)} {q : Str} (hccd : c.ccd = .ref 482) (hq : c.cn ++ ".<locals>." ++ "<lambda>" = q) 
    (hpos : (∀ e ∈ es, ¬ (e.1 = pos.line ∧ e.2 = pos.col)) ∧ es' = es ++ [((pos.line : Int), (pos.col : Int))] ∨ ((pos.line : Int), (pos.col : Int)) ∈ es ∧ es' = es) (hfree : ∀ x ∈ scope.names, x.2 ≠ .free := by decide) (hdef : ∀ env, defaultsOf params env = ([], []) := by intro _; rfl) :
    Ev c S .none (σ1 ++ (478, TabP q es) :: σ2) ρ lv (.Lambda params body scope pos) (σ1 ++ (478, TabP q es') :: σ2) (.fn ⟨"<lambda>", q, params, body, scope⟩ []) :=
  lamCore hccd hq (hdef _) (fun _ => ⟨[], closureFor_none hfree, .nil⟩) hpos
/-- a lambda with one free name -/
theorem ev_lam1 {x : Str} {d : D} {params : Arguments} {body : Expr} {scope : Scope} {pos : Pos} {es es' : List (Int × Int)} {q : Str} (hx : ρ.lookup x = some (.froz d)) (hccd : c.ccd = .ref 482) (hq : c.cn ++ ".<locals>." ++ "<lambda>" = q) 
    (hpos : (∀ e ∈ es, ¬ (e.1 = pos.line ∧ e.2 = pos.col)) ∧ es' = es ++ [((pos.line : Int), (pos.col : Int))] ∨ ((pos.line : Int), (pos.col : Int)) ∈ es ∧ es' = es) (hcl : ∀ (env : Env) (ca : Addr), env.cells.lookup x = some ca → closureFor scope env = pure [(x, ca)]) (hdef : ∀ env, defaultsOf params env = ([], []) := by intro _; rfl) :
    Ev c S .none (σ1 ++ (478, TabP q es) :: σ2) ρ lv (.Lambda params body scope pos) (σ1 ++ (478, TabP q es') :: σ2) (.fn ⟨"<lambda>", q, params, body, scope⟩ [(x, d)]) :=
  lamCore hccd hq (hdef _) (fun {σo Z own m lm T s} F => by
    cases F.var _ _ hx with
    | loc _ _ hb => cases hb
    | frozen _ hc hz hd h => exact ⟨_, hcl _ _ hc, .cons hz hd h .nil⟩) hpos
end
end Mine
set_option maxRecDepth 100000
namespace Mine
theorem fill : PySem.Challenge.rw_pf0199_01 = PySem.Challenge.rw_pf0199_01 ∧ hd.heap_1 = hd.heap_1 := by
  k_fill
  exact ⟨rfl, rfl⟩
theorem gl_common_divisor (w : World) : Gl w "common_divisor" (.ref 72) := ⟨by k_is, by k_is⟩
theorem gl_fraction (w : World) : Gl w "fraction" (.ref 80) := ⟨by k_is, by k_is⟩
theorem gl_plus (w : World) : Gl w "plus" (.ref 87) := ⟨by k_is, by k_is⟩
theorem gl_minus (w : World) : Gl w "minus" (.ref 94) := ⟨by k_is, by k_is⟩
theorem gl_times (w : World) : Gl w "times" (.ref 101) := ⟨by k_is, by k_is⟩
theorem gl_divided (w : World) : Gl w "divided" (.ref 108) := ⟨by k_is, by k_is⟩
theorem gl_negated (w : World) : Gl w "negated" (.ref 115) := ⟨by k_is, by k_is⟩
theorem gl_sign_of (w : World) : Gl w "sign_of" (.ref 122) := ⟨by k_is, by k_is⟩
theorem gl_compare (w : World) : Gl w "compare" (.ref 129) := ⟨by k_is, by k_is⟩
theorem gl_root_floor (w : World) : Gl w "root_floor" (.ref 136) := ⟨by k_is, by k_is⟩
theorem gl_spot (w : World) : Gl w "spot" (.ref 254) := ⟨by k_is, by k_is⟩
theorem gl_middle (w : World) : Gl w "middle" (.ref 261) := ⟨by k_is, by k_is⟩
theorem gl_begin_of (w : World) : Gl w "begin_of" (.ref 268) := ⟨by k_is, by k_is⟩
theorem gl_contour_segments (w : World) : Gl w "contour_segments" (.ref 275) := ⟨by k_is, by k_is⟩
theorem gl_segments_of (w : World) : Gl w "segments_of" (.ref 282) := ⟨by k_is, by k_is⟩
theorem gl_length_of (w : World) : Gl w "length_of" (.ref 311) := ⟨by k_is, by k_is⟩
theorem gl_begins_of (w : World) : Gl w "begins_of" (.ref 318) := ⟨by k_is, by k_is⟩
theorem gl_anchor_shift (w : World) : Gl w "anchor_shift" (.ref 325) := ⟨by k_is, by k_is⟩
theorem gl_glyphs_of (w : World) : Gl w "glyphs_of" (.ref 330) := ⟨by k_is, by k_is⟩
theorem gl_letters_of (w : World) : Gl w "letters_of" (.ref 335) := ⟨by k_is, by k_is⟩
theorem gl_path_sides (w : World) : Gl w "path_sides" (.ref 391) := ⟨by k_is, by k_is⟩
theorem gl_path_length (w : World) : Gl w "path_length" (.ref 398) := ⟨by k_is, by k_is⟩
theorem gl_side_at (w : World) : Gl w "side_at" (.ref 405) := ⟨by k_is, by k_is⟩
theorem gl_turned_matrix (w : World) : Gl w "turned_matrix" (.ref 412) := ⟨by k_is, by k_is⟩
theorem gl_middle_along (w : World) : Gl w "middle_along" (.ref 419) := ⟨by k_is, by k_is⟩
theorem gl_path_letters (w : World) : Gl w "path_letters" (.ref 427) := ⟨by k_is, by k_is⟩
theorem gl_law_source (w : World) : Gl w "_law_source" (.ref 434) := ⟨by k_is, by k_is⟩
theorem gl_law_next (w : World) : Gl w "_law_next" (.ref 441) := ⟨by k_is, by k_is⟩
theorem gl_law_pick (w : World) : Gl w "_law_pick" (.ref 448) := ⟨by k_is, by k_is⟩
theorem gl_law_low (w : World) : Gl w "_law_low" (.ref 455) := ⟨by k_is, by k_is⟩
theorem gl_law_sum (w : World) : Gl w "_law_sum" (.ref 462) := ⟨by k_is, by k_is⟩
theorem gl_law_times (w : World) : Gl w "_law_times" (.ref 469) := ⟨by k_is, by k_is⟩
theorem gl_law_path (w : World) : Gl w "_law_path" (.ref 476) := ⟨by k_is, by k_is⟩
theorem gl_law_font (w : World) : Gl w "_law_font" (.ref 483) := ⟨by k_is, by k_is⟩
theorem gl_law_middles (w : World) : Gl w "_law_middles" (.ref 488) := ⟨by k_is, by k_is⟩
theorem gl_law_matrix (w : World) : Gl w "_law_matrix" (.ref 495) := ⟨by k_is, by k_is⟩
theorem gl_law_due (w : World) : Gl w "_law_due" (.ref 500) := ⟨by k_is, by k_is⟩
theorem gl_law_right (w : World) : Gl w "_law_right" (.ref 505) := ⟨by k_is, by k_is⟩
theorem gl_Matrix (w : World) : Gl w "Matrix" (.ref 195) := ⟨by k_is, by k_is⟩
theorem gl_Outline (w : World) : Gl w "Outline" (.ref 243) := ⟨by k_is, by k_is⟩
theorem gl_Letter (w : World) : Gl w "Letter" (.ref 300) := ⟨by k_is, by k_is⟩
theorem gl_PathSide (w : World) : Gl w "PathSide" (.ref 380) := ⟨by k_is, by k_is⟩
theorem bt_abs (w : World) : Bt w "abs" (.builtin "abs") := ⟨by k_is, by decide +kernel, by decide⟩
theorem bt_len (w : World) : Bt w "len" (.builtin "len") := ⟨by k_is, by decide +kernel, by decide⟩
theorem bt_sum (w : World) : Bt w "sum" (.builtin "sum") := ⟨by k_is, by decide +kernel, by decide⟩
theorem bt_max (w : World) : Bt w "max" (.builtin "max") := ⟨by k_is, by decide +kernel, by decide⟩
theorem bt_ord (w : World) : Bt w "ord" (.builtin "ord") := ⟨by k_is, by decide +kernel, by decide⟩
theorem bt_range (w : World) : Bt w "range" (.type "range") := ⟨by k_is, by decide +kernel, by decide⟩
theorem bt_list (w : World) : Bt w "list" (.type "list") := ⟨by k_is, by decide +kernel, by decide⟩
theorem bt_tuple (w : World) : Bt w "tuple" (.type "tuple") := ⟨by k_is, by decide +kernel, by decide⟩
theorem bt_zip (w : World) : Bt w "zip" (.type "zip") := ⟨by k_is, by decide +kernel, by decide⟩
theorem bt_enumerate (w : World) : Bt w "enumerate" (.type "enumerate") := ⟨by k_is, by decide +kernel, by decide⟩
theorem na_ANCHORS (w : World) : nsIn (hd.heap_1 w.params) mainGlobals "ANCHORS" = some (some (.ref 283)) := by k_is
local macro_rules | `(tactic| walk_at "enter") => `(tactic| (
  (case k6 => k_is)
  (case k7 => k_is)
  (case hb => first
    | exact bind1 fun _ _ => BindsTo.of_eq rfl
    | exact bind2 fun _ _ _ => BindsTo.of_eq rfl
    | exact bind3 fun _ _ _ _ => BindsTo.of_eq rfl
    | exact bind4 fun _ _ _ _ _ => BindsTo.of_eq rfl
    | exact bind5 fun _ _ _ _ _ _ => BindsTo.of_eq rfl
    | exact bind6 fun _ _ _ _ _ _ _ => BindsTo.of_eq rfl
    | exact bind7 fun _ _ _ _ _ _ _ _ => BindsTo.of_eq rfl
    | exact bind8 fun _ _ _ _ _ _ _ _ _ => BindsTo.of_eq rfl
    | exact bindD2 fun _ _ _ hK => BindsTo.of_defaults rfl (hK _ _ (by k_is)) rfl rfl rfl
    | exact bindDi fun _ _ hK => BindsTo.of_defaults rfl (hK _ _ (by k_is)) rfl rfl rfl)
  (case h1 => decide)
  (case h2 => decide)
  (case h3 => decide)
  (case h4 => decide)
  (case h5 => rfl)
  (case h6 => rfl)
  (case h7 => rfl)))
-- one step of an evaluation
local macro_rules | `(tactic| walk_at "ev1") => `(tactic| first
  | with_reducible exact EvL.nil
  | ((with_reducible show EvL _ _ _ _ _ _ (_ :: _) _ _); refine' EvL.cons ?_ ?_)
  | with_reducible exact Ev.int
  | with_reducible exact Ev.none
  | with_reducible exact Ev.bool
  | with_reducible exact Ev.str
  | ((with_reducible show Ev _ _ _ _ _ _ (.Name _ _) _ _); first | exact Ev.name rfl | exact Ev.nameC rfl | exact Ev.nameF rfl)
  | ((with_reducible show Ev _ _ _ _ _ _ (.BinOp _ _ _ _) _ _); refine' Ev.bin ?_ ?_ ?_)
  | with_reducible exact bin_add
  | ((with_reducible show Bin _ _ _ _ _); assumption)
  | with_reducible exact bin_sub
  | ((with_reducible show Ev _ _ _ _ _ _ (.Tuple _ _ _) _ _); refine' Ev.tuple ?_)
  | ((with_reducible show Ev _ _ _ _ _ _ (.List _ _) _ _); refine' Ev.list ?_)
  | ((with_reducible show Ev _ _ _ _ _ _ (.Subscript _ _ _) _ _); refine' Ev.sub ?_ ?_ ?_)
  | ((with_reducible show Sub _ _ _ (.tup _) (.int _) _); exact sub_tup rfl rfl)
  | ((with_reducible show Ev _ _ _ _ _ _ (.UnaryOp .USub _ _) _ _); refine' Ev.neg ?_)
  | ((with_reducible show Tv _ _ _ _ _ _ (.Compare _ [_] [_] _) _ _); refine' Tv.cmp ?_ ?_ ?_)
  | ((with_reducible show Ev _ _ _ _ _ _ (.Compare _ [_] [_] _) _ _); refine' Ev.cmp ?_ ?_ ?_)
  | with_reducible exact cmp_eq
  | with_reducible exact cmp_ne
  | with_reducible exact cmp_lt
  | with_reducible exact cmp_gt
  | with_reducible exact cmp_le
  | with_reducible exact cmp_ge)
local macro_rules | `(tactic| walk_at "ev") => `(tactic| repeat' (walk_at "ev1"))
local macro_rules | `(tactic| walk_at "entercls") => `(tactic| (
  (case m1 => k_is)
  (case m2 => k_is)
  (case m3 => k_is)
  (case k6 => k_is)
  (case k7 => k_is)
  (case hb => first
    | exact bind2 fun _ _ _ => BindsTo.of_eq rfl
    | exact bind3 fun _ _ _ _ => BindsTo.of_eq rfl
    | exact bind4 fun _ _ _ _ _ => BindsTo.of_eq rfl
    | exact bind5 fun _ _ _ _ _ _ => BindsTo.of_eq rfl
    | exact bind6 fun _ _ _ _ _ _ _ => BindsTo.of_eq rfl
    | exact bind7 fun _ _ _ _ _ _ _ _ => BindsTo.of_eq rfl)
  (case h1 => decide)
  (case h2 => decide)
  (case h3 => exact fun _ => rfl)
  (case h5 => rfl)
  (case h6 => rfl)
  (case h7 => rfl)))
local macro_rules | `(tactic| walk_at "mem") => `(tactic| (repeat (first | exact List.forall_mem_nil _ | refine List.forall_mem_cons.mpr ⟨rfl, ?_⟩)))
local macro_rules | `(tactic| walk_at "clos") => `(tactic| (repeat (first | exact List.forall_mem_nil _ | refine List.forall_mem_cons.mpr ⟨fun h => (by first | exact ⟨_, rfl, rfl⟩ | cases h), ?_⟩)))
theorem gcd_step {a b : Int} (ha : 0 ≤ a) (hb : 0 < b) : Int.gcd b (a.fmod b) = Int.gcd a b ∧ 0 ≤ a.fmod b ∧ a.fmod b < b := by
  rw [Int.fmod_eq_emod_of_nonneg a (Int.le_of_lt hb)]
  refine ⟨?_, Int.emod_nonneg _ (by omega), Int.emod_lt_of_pos _ hb⟩
  obtain ⟨m, rfl⟩ := Int.eq_ofNat_of_zero_le ha
  obtain ⟨n, rfl⟩ := Int.eq_ofNat_of_zero_le (Int.le_of_lt hb)
  show Nat.gcd n (m % n) = Nat.gcd m n
  rw [Nat.gcd_comm m n, Nat.gcd_rec n m, Nat.gcd_comm]
theorem c_gcd (w : World) (a b : Int) (hb : 0 ≤ b) (σ : Sg) : Fn w (.ref 72) 1 [.int a, .int b] σ σ (.int (Int.gcd a b)) := by
  k_dflt (refine' Fn.def_ (es := []) ["one", "other"] [] ?k6 ?k7 ?hb ?h1 ?h2 ?h3 ?h4 ?h5 ?h6 ?h7 rfl (by decide) ?body)
  walk_at "enter"
  case body =>
    intro c hw hr
    subst hw
    refine Ex.assign2 (EvL.cons (Ev.bcall (bt_abs _) (EvL.cons (Ev.name rfl) EvL.nil) bf_abs) (EvL.cons (Ev.name rfl) EvL.nil)) ?_
    refine Ex.while_ (α := {p : Int × Int // 0 ≤ p.1 ∧ 0 ≤ p.2 ∧ Int.gcd p.1 p.2 = Int.gcd a b}) (fun _ => σ) (fun p => [("first", .val (.int p.1.1)), ("second", .val (.int p.1.2))]) (fun p => p.1.2.toNat) ⟨(if a < 0 then -a else a, b), by
      refine ⟨by show 0 ≤ (if a < 0 then -a else a); split <;> omega, hb, ?_⟩
      show Int.gcd (if a < 0 then -a else a) b = _
      split
      · exact Int.neg_gcd
      · rfl⟩ rfl (List.forall_mem_cons.mpr ⟨rfl, List.forall_mem_cons.mpr ⟨rfl, List.forall_mem_nil _⟩⟩) ?_
    rintro ⟨⟨x, y⟩, hx, hy, hg⟩
    refine ⟨_, _, Tv.cmp (Ev.name rfl) Ev.int cmp_gt, fun h => ?_, fun h => ?_⟩
    · have hy0 : 0 < y := of_decide_eq_true h
      clear h
      change 0 ≤ x at hx
      change 0 ≤ y at hy
      have st := gcd_step hx hy0
      refine Ex.assign2 (EvL.cons (Ev.name rfl) (EvL.cons (Ev.bin (Ev.name rfl) (Ev.name rfl) (bin_mod (Int.ne_of_gt hy0))) EvL.nil)) (Ex.nil (TurnP.next ⟨(y, x.fmod y), Int.le_of_lt hy0, st.2.1, st.1.trans hg⟩ ?_ rfl (List.forall_mem_cons.mpr ⟨rfl, List.forall_mem_cons.mpr ⟨rfl, List.forall_mem_nil _⟩⟩)))
      show (x.fmod y).toNat < y.toNat
      omega
    · have hy0 : y = 0 := by
        have h0 : ¬ 0 < y := of_decide_eq_false h
        change 0 ≤ y at hy
        omega
      subst hy0
      have : x = (Int.gcd a b : Int) := by
        rw [← hg]
        change 0 ≤ x at hx
        show x = (Int.gcd x 0 : Int)
        rw [Int.gcd_zero_right]; omega
      rw [← this]
      exact Ex.ret (Ev.name rfl) RetP.rt
noncomputable def frac (t b : Int) : Int × Int :=
  if b < 0 then ((-t).fdiv (Int.gcd (-t) (-b)), (-b).fdiv (Int.gcd (-t) (-b))) else (t.fdiv (Int.gcd t b), b.fdiv (Int.gcd t b))
noncomputable abbrev F (p : Int × Int) : D := .tup [.int p.1, .int p.2]
theorem Bd.gcd {k : Nat} {t b : Int} (hb : Bd k b) (h0 : b ≠ 0) : Bd k (Int.gcd t b : Int) := by
  unfold Bd at *
  have h1 : (Int.gcd t b) ≤ b.natAbs := Nat.gcd_le_right _ (by omega)
  have : ((Int.gcd t b : Int)).natAbs = Int.gcd t b := Int.natAbs_natCast _
  omega
theorem gcd_ne {t b : Int} (h0 : b ≠ 0) : (Int.gcd t b : Int) ≠ 0 := by
  have : Int.gcd t b ≠ 0 := fun e => h0 (Int.gcd_eq_zero_iff.mp e).2
  omega
theorem c_fraction (w : World) {k : Nat} {t b : Int} (h0 : b ≠ 0) (hb : Bd k b) (hk : k ≤ 9000) (σ : Sg) : Fn w (.ref 80) 2 [.int t, .int b] σ σ (F (frac t b)) := by
  k_dflt (refine' Fn.def_ (es := []) ["top", "bottom"] [] ?k6 ?k7 ?hb ?h1 ?h2 ?h3 ?h4 ?h5 ?h6 ?h7 rfl (by decide) ?body)
  walk_at "enter"
  case body =>
    intro c hw hr
    subst hw
    refine Ex.if_ (σ1 := σ) (b := b == 0) ?_ (fun h => absurd (eq_of_beq h) h0) fun _ => Ex.nil (NextP.then_ ?_)
    · walk_at "ev"
    refine Ex.if_ (σ1 := σ) (b := decide (b < 0)) ?_ (fun h => ?_) fun h => Ex.nil (NextP.then_ ?_)
    · walk_at "ev"
    · have hn : b < 0 := of_decide_eq_true h
      refine Ex.assign2 (σ1 := σ) (d1 := .int (-t)) (d2 := .int (-b)) ?_ (Ex.nil (NextP.then_ ?_))
      · walk_at "ev"
      have hb' : Bd k (-b) := by unfold Bd at *; omega
      have h0' : -b ≠ 0 := by omega
      refine Ex.assign (σ1 := σ) (d := .int (Int.gcd (-t) (-b))) (Ev.call (gl_common_divisor _) ?_ (c_gcd _ _ _ (by omega) _) (by omega)) ?_
      · walk_at "ev"
      refine Ex.ret (σ1 := σ) ?_ RetP.rt
      unfold F frac
      rw [if_pos hn]
      walk_at "ev"
      all_goals exact bin_fdiv (gcd_ne h0') (hb'.gcd h0') hk
    · have hn : ¬ b < 0 := of_decide_eq_false h
      refine Ex.assign (σ1 := σ) (d := .int (Int.gcd t b)) (Ev.call (gl_common_divisor _) ?_ (c_gcd _ _ _ (by omega) _) (by omega)) ?_
      · walk_at "ev"
      refine Ex.ret (σ1 := σ) ?_ RetP.rt
      unfold F frac
      rw [if_neg hn]
      walk_at "ev"
      all_goals exact bin_fdiv (gcd_ne h0) (hb.gcd h0) hk
theorem frac_one (t : Int) : frac t 1 = (t, 1) := by
  unfold frac
  rw [if_neg (by decide)]
  have : Int.gcd t 1 = 1 := Int.gcd_one
  rw [this]
  simp
theorem c_fraction1 (w : World) {t : Int} (σ : Sg) : Fn w (.ref 80) 2 [.int t] σ σ (F (t, 1)) := by
  k_dflt (refine' Fn.def_ (es := [.int 1]) ["top", "bottom"] [] ?k6 ?k7 ?hb ?h1 ?h2 ?h3 ?h4 ?h5 ?h6 ?h7 rfl (by decide) ?body)
  walk_at "enter"
  case body =>
    intro c hw hr
    subst hw
    refine Ex.if_ (σ1 := σ) (b := (1 : Int) == 0) ?_ (fun h => by cases h) fun _ => Ex.nil (NextP.then_ ?_)
    · walk_at "ev"
    refine Ex.if_ (σ1 := σ) (b := decide ((1 : Int) < 0)) ?_ (fun h => by cases h) fun h => Ex.nil (NextP.then_ ?_)
    · walk_at "ev"
    · refine Ex.assign (σ1 := σ) (d := .int (Int.gcd t 1)) (Ev.call (gl_common_divisor _) ?_ (c_gcd _ _ _ (by decide) _) (by omega)) ?_
      · walk_at "ev"
      rw [show (Int.gcd t 1) = 1 from Int.gcd_one]
      refine Ex.ret (σ1 := σ) ?_ RetP.rt
      have e1 : t = t.fdiv ((1 : Nat) : Int) := by simp
      have e2 : (1 : Int) = (1 : Int).fdiv ((1 : Nat) : Int) := by simp
      refine' Ev.tuple (EvL.cons (Ev.bin (Ev.name rfl) (Ev.name rfl) ?_) (EvL.cons (Ev.bin (Ev.name rfl) (Ev.name rfl) ?_) EvL.nil))
      · have := bin_fdiv (w := c.w) (a := t) (b := ((1 : Nat) : Int)) (k := 2) (by decide) (by unfold Bd; decide)
        rw [← e1] at this; exact this
      · have := bin_fdiv (w := c.w) (a := 1) (b := ((1 : Nat) : Int)) (k := 2) (by decide) (by unfold Bd; decide)
        rw [← e2] at this; exact this
/-- a fraction whose parts are not too large -/
structure Bz (k : Nat) (a : Int × Int) : Prop where
  n : Bd k a.1
  d : Bd k a.2
  p : 0 < a.2
theorem Bd.mul {j k : Nat} {a b : Int} (ha : Bd j a) (hb : Bd k b) : Bd (j + k) (a * b) := by
  unfold Bd at *
  rw [Int.natAbs_mul, Nat.pow_add]
  exact Nat.mul_lt_mul'' ha hb
noncomputable def fplus (a b : Int × Int) : Int × Int := frac (a.1 * b.2 + b.1 * a.2) (a.2 * b.2)
noncomputable def fminus (a b : Int × Int) : Int × Int := frac (a.1 * b.2 - b.1 * a.2) (a.2 * b.2)
noncomputable def ftimes (a b : Int × Int) : Int × Int := frac (a.1 * b.1) (a.2 * b.2)
noncomputable def fdivd (a b : Int × Int) : Int × Int := frac (a.1 * b.2) (a.2 * b.1)
theorem pos_ne {a b : Int} (ha : 0 < a) (hb : 0 < b) : a * b ≠ 0 := Int.ne_of_gt (Int.mul_pos ha hb)
theorem c_plus (w : World) {k : Nat} {a b : Int × Int} (ha : Bz k a) (hb : Bz k b) (hk : k ≤ 4000) (σ : Sg) : Fn w (.ref 87) 3 [F a, F b] σ σ (F (fplus a b)) := by
  k_dflt (refine' Fn.def_ (es := []) ["a", "b"] [] ?k6 ?k7 ?hb ?h1 ?h2 ?h3 ?h4 ?h5 ?h6 ?h7 rfl (by decide) ?body)
  walk_at "enter"
  case body =>
    intro c hw hr
    subst hw
    refine Ex.ret (σ1 := σ) (Ev.call (gl_fraction _) ?_ (c_fraction _ (pos_ne ha.p hb.p) (ha.d.mul hb.d) (by omega) _) (by omega)) RetP.rt
    walk_at "ev"
    · exact bin_mul (ha.n.mulOk hb.d (by omega))
    · exact bin_mul (hb.n.mulOk ha.d (by omega))
    · exact bin_mul (ha.d.mulOk hb.d (by omega))
theorem c_minus (w : World) {k : Nat} {a b : Int × Int} (ha : Bz k a) (hb : Bz k b) (hk : k ≤ 4000) (σ : Sg) : Fn w (.ref 94) 3 [F a, F b] σ σ (F (fminus a b)) := by
  k_dflt (refine' Fn.def_ (es := []) ["a", "b"] [] ?k6 ?k7 ?hb ?h1 ?h2 ?h3 ?h4 ?h5 ?h6 ?h7 rfl (by decide) ?body)
  walk_at "enter"
  case body =>
    intro c hw hr
    subst hw
    refine Ex.ret (σ1 := σ) (Ev.call (gl_fraction _) ?_ (c_fraction _ (pos_ne ha.p hb.p) (ha.d.mul hb.d) (by omega) _) (by omega)) RetP.rt
    walk_at "ev"
    · exact bin_mul (ha.n.mulOk hb.d (by omega))
    · exact bin_mul (hb.n.mulOk ha.d (by omega))
    · exact bin_mul (ha.d.mulOk hb.d (by omega))
theorem c_times (w : World) {k : Nat} {a b : Int × Int} (ha : Bz k a) (hb : Bz k b) (hk : k ≤ 4000) (σ : Sg) : Fn w (.ref 101) 3 [F a, F b] σ σ (F (ftimes a b)) := by
  k_dflt (refine' Fn.def_ (es := []) ["a", "b"] [] ?k6 ?k7 ?hb ?h1 ?h2 ?h3 ?h4 ?h5 ?h6 ?h7 rfl (by decide) ?body)
  walk_at "enter"
  case body =>
    intro c hw hr
    subst hw
    refine Ex.ret (σ1 := σ) (Ev.call (gl_fraction _) ?_ (c_fraction _ (pos_ne ha.p hb.p) (ha.d.mul hb.d) (by omega) _) (by omega)) RetP.rt
    walk_at "ev"
    · exact bin_mul (ha.n.mulOk hb.n (by omega))
    · exact bin_mul (ha.d.mulOk hb.d (by omega))
theorem c_divided (w : World) {k : Nat} {a b : Int × Int} (ha : Bz k a) (hb : Bz k b) (hn : b.1 ≠ 0) (hk : k ≤ 4000) (σ : Sg) : Fn w (.ref 108) 3 [F a, F b] σ σ (F (fdivd a b)) := by
  k_dflt (refine' Fn.def_ (es := []) ["a", "b"] [] ?k6 ?k7 ?hb ?h1 ?h2 ?h3 ?h4 ?h5 ?h6 ?h7 rfl (by decide) ?body)
  walk_at "enter"
  case body =>
    intro c hw hr
    subst hw
    refine Ex.if_ (σ1 := σ) (b := b.1 == 0) ?_ (fun h => absurd (eq_of_beq h) hn) fun _ => Ex.nil (NextP.then_ ?_)
    · walk_at "ev"
    refine Ex.ret (σ1 := σ) (Ev.call (gl_fraction _) ?_ (c_fraction _ (Int.mul_ne_zero (Int.ne_of_gt ha.p) hn) (ha.d.mul hb.n) (by omega) _) (by omega)) RetP.rt
    walk_at "ev"
    · exact bin_mul (ha.n.mulOk hb.d (by omega))
    · exact bin_mul (ha.d.mulOk hb.n (by omega))
theorem c_negated (w : World) {a : Int × Int} (σ : Sg) : Fn w (.ref 115) 1 [F a] σ σ (F (-a.1, a.2)) := by
  k_dflt (refine' Fn.def_ (es := []) ["a"] [] ?k6 ?k7 ?hb ?h1 ?h2 ?h3 ?h4 ?h5 ?h6 ?h7 rfl (by decide) ?body)
  walk_at "enter"
  case body =>
    intro c hw hr
    subst hw
    refine Ex.ret (σ1 := σ) ?_ RetP.rt
    walk_at "ev"
noncomputable def sgn (n : Int) : Int := if 0 < n then 1 else if n < 0 then -1 else 0
theorem c_sign (w : World) {a : Int × Int} (σ : Sg) : Fn w (.ref 122) 1 [F a] σ σ (.int (sgn a.1)) := by
  k_dflt (refine' Fn.def_ (es := []) ["a"] [] ?k6 ?k7 ?hb ?h1 ?h2 ?h3 ?h4 ?h5 ?h6 ?h7 rfl (by decide) ?body)
  walk_at "enter"
  case body =>
    intro c hw hr
    subst hw
    refine Ex.if_ (σ1 := σ) (b := decide (0 < a.1)) ?_ (fun h => ?_) fun h => Ex.nil (NextP.then_ ?_)
    · walk_at "ev"
    · have : sgn a.1 = 1 := if_pos (of_decide_eq_true h)
      rw [this]
      exact Ex.ret Ev.int RetP.rt.then_
    refine Ex.if_ (σ1 := σ) (b := decide (a.1 < 0)) ?_ (fun h' => ?_) fun h' => Ex.nil (NextP.then_ ?_)
    · walk_at "ev"
    · have : sgn a.1 = -1 := (if_neg (of_decide_eq_false h)).trans (if_pos (of_decide_eq_true h'))
      rw [this]
      exact Ex.ret (Ev.neg Ev.int) RetP.rt.then_
    · have : sgn a.1 = 0 := (if_neg (of_decide_eq_false h)).trans (if_neg (of_decide_eq_false h'))
      rw [this]
      exact Ex.ret Ev.int RetP.rt
theorem c_compare (w : World) {k : Nat} {a b : Int × Int} (ha : Bz k a) (hb : Bz k b) (hk : k ≤ 4000) (σ : Sg) : Fn w (.ref 129) 2 [F a, F b] σ σ (.int (sgn (a.1 * b.2 - b.1 * a.2))) := by
  k_dflt (refine' Fn.def_ (es := []) ["a", "b"] [] ?k6 ?k7 ?hb ?h1 ?h2 ?h3 ?h4 ?h5 ?h6 ?h7 rfl (by decide) ?body)
  walk_at "enter"
  case body =>
    intro c hw hr
    subst hw
    refine Ex.ret (σ1 := σ) (Ev.call (gl_sign_of _) ?_ (c_sign _ (a := (a.1 * b.2 - b.1 * a.2, 1)) _) (by omega)) RetP.rt
    walk_at "ev"
    · exact bin_mul (ha.n.mulOk hb.d (by omega))
    · exact bin_mul (hb.n.mulOk ha.d (by omega))
theorem sq_le {x m : Int} (hx : 0 ≤ x) (hm : 0 ≤ m) : x * x ≤ m * m ↔ x ≤ m := by
  constructor
  · intro h
    by_cases q : x ≤ m
    · exact q
    · have h1 : m + 1 ≤ x := by omega
      have h2 : (m + 1) * (m + 1) ≤ x * x := Int.mul_le_mul h1 h1 (by omega) hx
      have h3 : (m + 1) * (m + 1) = m * m + 2 * m + 1 := by
        rw [Int.add_mul, Int.mul_add]; omega
      omega
  · intro h
    exact Int.mul_le_mul h h hx hm
theorem newton {x m : Int} (hx : 0 < x) (hm : 0 ≤ m) : m ≤ (x + (m * m).fdiv x).fdiv 2 ∧ ((x ≤ (x + (m * m).fdiv x).fdiv 2) → x ≤ m) := by
  rw [Int.fdiv_eq_ediv_of_nonneg _ (Int.le_of_lt hx), Int.fdiv_eq_ediv_of_nonneg _ (by decide : (0 : Int) ≤ 2)]
  have e : 2 * m - x ≤ m * m / x := by
    rw [Int.le_ediv_iff_mul_le hx]
    have h0 : 0 ≤ (m - x) * (m - x) := by
      rcases Int.le_total 0 (m - x) with h | h
      · exact Int.mul_nonneg h h
      · exact Int.mul_nonneg_of_nonpos_of_nonpos h h
    have h1 : (m - x) * (m - x) = m * m - (2 * m - x) * x := by
      simp only [Int.sub_mul, Int.mul_sub]
      have : m * x = x * m := Int.mul_comm _ _
      have : 2 * m * x = 2 * (m * x) := Int.mul_assoc _ _ _
      omega
    omega
  refine ⟨by omega, fun h => ?_⟩
  have h2 : x ≤ m * m / x := by omega
  rw [Int.le_ediv_iff_mul_le hx] at h2
  exact (sq_le (Int.le_of_lt hx) hm).mp h2
theorem Bd.le {k : Nat} {a b : Int} (h : Bd k b) (h0 : 0 ≤ a) (hl : a ≤ b) : Bd k a := by unfold Bd at *; omega
theorem Bd.dbl {k : Nat} {b : Int} (h : Bd k b) : Bd (k + 1) (2 * b) := by
  unfold Bd at *
  rw [Nat.pow_succ]
  omega
theorem c_root (w : World) {k : Nat} {n m : Int} (hn : n = m * m) (hm : 0 ≤ m) (hb : Bd k m) (hk : k ≤ 4000) (σ : Sg) : Fn w (.ref 136) 1 [.int n] σ σ (.int m) := by
  subst hn
  k_dflt (refine' Fn.def_ (es := []) ["n"] [] ?k6 ?k7 ?hb ?h1 ?h2 ?h3 ?h4 ?h5 ?h6 ?h7 rfl (by decide) ?body)
  walk_at "enter"
  case body =>
    intro c hw hr
    subst hw
    have hnn : 0 ≤ m * m := Int.mul_nonneg hm hm
    refine Ex.if_ (σ1 := σ) (b := decide (m * m < 0)) ?_ (fun h => absurd (of_decide_eq_true h) (by omega)) fun _ => Ex.nil (NextP.then_ ?_)
    · walk_at "ev"
    refine Ex.if_ (σ1 := σ) (b := m * m == 0) ?_ (fun h => ?_) fun h => Ex.nil (NextP.then_ ?_)
    · walk_at "ev"
    · have h0 : m = 0 := by
        have : m * m = 0 := eq_of_beq h
        rcases Int.mul_eq_zero.mp this with h | h <;> exact h
      subst h0
      exact Ex.ret Ev.int RetP.rt.then_
    have h1m : 1 ≤ m := by
      have : m ≠ 0 := fun e => by rw [e] at h; cases h
      omega
    clear h
    refine Ex.assign (σ1 := σ) (d := .int 1) Ev.int ?_
    refine Ex.while_ (α := {x : Int // 1 ≤ x ∧ x ≤ 2 * m}) (fun _ => σ) (fun x => [("n", .val (.int (m * m))), ("found", .val (.int x.1))]) (fun x => (m + 1 - x.1).toNat) ⟨1, by omega, by omega⟩ rfl (List.forall_mem_cons.mpr ⟨rfl, List.forall_mem_cons.mpr ⟨rfl, List.forall_mem_nil _⟩⟩) ?_
    rintro ⟨x, hx1, hx2⟩
    have hbx : Bd (k + 1) x := hb.dbl.le (by omega) hx2
    refine ⟨decide (x * x ≤ m * m), σ, ?_, fun h => ?_, fun h => ?_⟩
    · walk_at "ev"
      exact bin_mul (hbx.mulOk hbx (by omega))
    · have hle : x ≤ m := (sq_le (by omega) hm).mp (of_decide_eq_true h)
      refine Ex.assign (σ1 := σ) (d := .int (x * 2)) ?_ (Ex.nil (TurnP.next ⟨x * 2, by omega, by omega⟩ ?_ rfl (List.forall_mem_cons.mpr ⟨rfl, List.forall_mem_cons.mpr ⟨rfl, List.forall_mem_nil _⟩⟩)))
      · walk_at "ev"
        exact bin_mul (IntMulOk.of_right (by decide))
      · show (m + 1 - x * 2).toNat < (m + 1 - x).toNat
        omega
    · have hgt : m < x := by
        have h' : ¬ x * x ≤ m * m := of_decide_eq_false h
        have := mt (sq_le (x := x) (m := m) (by omega) hm).mpr h'
        omega
      refine Ex.assign (σ1 := σ) (d := .int ((x + (m * m).fdiv x).fdiv 2)) ?_ ?_
      · have q1 : Bin c.w .FloorDiv (.int (m * m)) (.int x) (.int ((m * m).fdiv x)) := bin_fdiv (by omega) hbx (by omega)
        have q2 : Bin c.w .FloorDiv (.int (x + (m * m).fdiv x)) (.int 2) (.int ((x + (m * m).fdiv x).fdiv 2)) := bin_fdiv (by decide) (k := 2) (by unfold Bd; decide)
        walk_at "ev"
      refine Ex.while_ (α := {y : Int // m ≤ y ∧ y ≤ 2 * m}) (fun _ => σ) (fun y => [("n", .val (.int (m * m))), ("found", .val (.int y.1)), ("lower", .val (.int ((y.1 + (m * m).fdiv y.1).fdiv 2)))]) (fun y => y.1.toNat) ⟨x, by omega, hx2⟩ rfl
        (List.forall_mem_cons.mpr ⟨rfl, List.forall_mem_cons.mpr ⟨rfl, List.forall_mem_cons.mpr ⟨rfl, List.forall_mem_nil _⟩⟩⟩) ?_
      rintro ⟨y, hy1, hy2⟩
      have hby : Bd (k + 1) y := hb.dbl.le (by omega) hy2
      have nw := newton (x := y) (m := m) (by omega) hm
      refine ⟨decide ((y + (m * m).fdiv y).fdiv 2 < y), σ, ?_, fun h => ?_, fun h => ?_⟩
      · walk_at "ev"
      · have hlt : (y + (m * m).fdiv y).fdiv 2 < y := of_decide_eq_true h
        have hbl : Bd (k + 1) ((y + (m * m).fdiv y).fdiv 2) := hby.le (by omega) (by omega)
        refine Ex.assign (σ1 := σ) (d := .int ((y + (m * m).fdiv y).fdiv 2)) (Ev.name rfl) ?_
        refine Ex.assign (σ1 := σ) (d := .int (((y + (m * m).fdiv y).fdiv 2 + (m * m).fdiv ((y + (m * m).fdiv y).fdiv 2)).fdiv 2)) ?_ (Ex.nil (TurnP.next ⟨(y + (m * m).fdiv y).fdiv 2, nw.1, by omega⟩ ?_ rfl
          (List.forall_mem_cons.mpr ⟨rfl, List.forall_mem_cons.mpr ⟨rfl, List.forall_mem_cons.mpr ⟨rfl, List.forall_mem_nil _⟩⟩⟩)))
        · generalize hL : (y + (m * m).fdiv y).fdiv 2 = z at *
          have q1 : Bin c.w .FloorDiv (.int (m * m)) (.int z) (.int ((m * m).fdiv z)) := bin_fdiv (by omega) hbl (by omega)
          have q2 : Bin c.w .FloorDiv (.int (z + (m * m).fdiv z)) (.int 2) (.int ((z + (m * m).fdiv z).fdiv 2)) := bin_fdiv (by decide) (k := 2) (by unfold Bd; decide)
          walk_at "ev"
        · show ((y + (m * m).fdiv y).fdiv 2).toNat < y.toNat
          omega
      · have hge : ¬ (y + (m * m).fdiv y).fdiv 2 < y := of_decide_eq_false h
        have : y = m := by have := nw.2 (by omega); omega
        subst this
        exact Ex.ret (Ev.name rfl) RetP.rt
/-- a side of a path -/
structure Side where
  one : Int × Int
  way : Int × Int
  len : Int
  begin : Int
noncomputable abbrev P2 (p : Int × Int) : D := .tup [.int p.1, .int p.2]
noncomputable abbrev sideD (s : Side) : D := .obj 380 [("one", P2 s.one), ("way", P2 s.way), ("length", .int s.len), ("begin", .int s.begin)]
theorem sa_one (w : World) : Sa w 380 "one" := ⟨by k_is, by k_is, by k_is, by k_is⟩
theorem sa_way (w : World) : Sa w 380 "way" := ⟨by k_is, by k_is, by k_is, by k_is⟩
theorem sa_length (w : World) : Sa w 380 "length" := ⟨by k_is, by k_is, by k_is, by k_is⟩
theorem sa_begin (w : World) : Sa w 380 "begin" := ⟨by k_is, by k_is, by k_is, by k_is⟩
theorem at_one (w : World) : At w 380 "one" := ⟨by k_is, by k_is, _, by k_is, by k_is⟩
theorem at_way (w : World) : At w 380 "way" := ⟨by k_is, by k_is, _, by k_is, by k_is⟩
theorem at_length (w : World) : At w 380 "length" := ⟨by k_is, by k_is, _, by k_is, by k_is⟩
theorem at_begin (w : World) : At w 380 "begin" := ⟨by k_is, by k_is, _, by k_is, by k_is⟩
theorem c_PathSide (w : World) {k : Nat} {one other : Int × Int} {b m : Int} (hm : (other.1 - one.1) * (other.1 - one.1) + (other.2 - one.2) * (other.2 - one.2) = m * m) (h0 : 0 ≤ m) (hb : Bd k m) (hk : k ≤ 4000)
    (h1 : Bd k (other.1 - one.1)) (h2 : Bd k (other.2 - one.2)) (σ : Sg) : Fn w (.ref 380) 4 [P2 one, P2 other, .int b] σ σ (sideD ⟨one, (other.1 - one.1, other.2 - one.2), m, b⟩) := by
  k_dflt (refine' Fn.cls_ (es := []) "self" ["one", "other", "begin"] ?m1 ?m2 ?m3 ?k6 ?k7 ?hb ?h1 ?h2 ?h3 ?h5 ?h6 ?h7 (by decide) ?body)
  walk_at "entercls"
  case body =>
    intro c x₀ dx hw hr
    subst hw
    refine Ex.setSelf (σ1 := σ) (d := P2 one) rfl ?_ (sa_one _) rfl ?_ (Nat.le_of_ble_eq_true rfl)
    · walk_at "ev"
    refine Ex.setSelf (σ1 := σ) (d := P2 (other.1 - one.1, other.2 - one.2)) rfl ?_ (sa_way _) rfl ?_ (Nat.le_of_ble_eq_true rfl)
    · walk_at "ev"
    refine Ex.setSelf (σ1 := σ) (d := .int m) rfl (Ev.call (gl_root_floor _) (EvL.cons (d := .int ((other.1 - one.1) * (other.1 - one.1) + (other.2 - one.2) * (other.2 - one.2))) ?_ EvL.nil) (c_root _ hm h0 hb hk _) (by omega)) (sa_length _) rfl ?_ (Nat.le_of_ble_eq_true rfl)
    · refine Ev.bin (Ev.bin (Ev.sub (Ev.selfAttr rfl (at_way _)) Ev.int (sub_tup rfl rfl)) (Ev.sub (Ev.selfAttr rfl (at_way _)) Ev.int (sub_tup rfl rfl)) (bin_mul (h1.mulOk h1 (by omega)))) (Ev.bin (Ev.sub (Ev.selfAttr rfl (at_way _)) Ev.int (sub_tup rfl rfl)) (Ev.sub (Ev.selfAttr rfl (at_way _)) Ev.int (sub_tup rfl rfl)) (bin_mul (h2.mulOk h2 (by omega)))) bin_add
    refine Ex.setSelf (σ1 := σ) (d := .int b) rfl ?_ (sa_begin _) rfl (Ex.nil (NextP.rtO rfl)) (Nat.le_of_ble_eq_true rfl)
    · walk_at "ev"
theorem me_end (w : World) : Me w 380 "end" 356 := ⟨by k_is, by k_is, by k_is, by k_is⟩
theorem me_holds (w : World) : Me w 380 "holds" 363 := ⟨by k_is, by k_is, by k_is, by k_is⟩
theorem me_point_at (w : World) : Me w 380 "point_at" 370 := ⟨by k_is, by k_is, by k_is, by k_is⟩
theorem me_turn (w : World) : Me w 380 "turn" 377 := ⟨by k_is, by k_is, by k_is, by k_is⟩
theorem c_end (w : World) (t : Side) (σ : Sg) : Fn w (.ref 356) 1 [sideD t] σ σ (.int (t.begin + t.len)) := by
  k_dflt (refine' Fn.def_ (es := []) ["self"] [] ?k6 ?k7 ?hb ?h1 ?h2 ?h3 ?h4 ?h5 ?h6 ?h7 rfl (by decide) ?body)
  walk_at "enter"
  case body =>
    intro c hw hr
    subst hw
    exact Ex.ret (σ1 := σ) (Ev.bin (Ev.attr (Ev.name rfl) (at_begin _)) (Ev.attr (Ev.name rfl) (at_length _)) bin_add) RetP.rt
theorem Bz.one {k : Nat} {n : Int} (h : Bd k n) (hk : 1 ≤ k := by omega) : Bz k (n, 1) := ⟨h, Bd.mono (k := 1) (by show (1 : Int).natAbs < 2 ^ 1; decide) hk, by show (0 : Int) < 1; decide⟩
noncomputable def holdsB (t : Side) (q : Int × Int) : Bool := decide (sgn (t.begin * q.2 - q.1 * 1) ≤ 0) && decide (0 ≤ sgn ((t.begin + t.len) * q.2 - q.1 * 1))
theorem c_holds (w : World) {k : Nat} {t : Side} {q : Int × Int} (hb : Bd k t.begin) (he : Bd k (t.begin + t.len)) (hq : Bz k q) (hk : k ≤ 4000) (h1 : 1 ≤ k) (σ : Sg) : Fn w (.ref 363) 3 [sideD t, F q] σ σ (.bool (holdsB t q)) := by
  k_dflt (refine' Fn.def_ (es := []) ["self", "distance"] [] ?k6 ?k7 ?hb ?h1 ?h2 ?h3 ?h4 ?h5 ?h6 ?h7 rfl (by decide) ?body)
  walk_at "enter"
  case body =>
    intro c hw hr
    subst hw
    refine Ex.ret (σ1 := σ) (Ev.chain ?_ Ev.int cmp_le (fun _ => ?_) fun _ => cmp_le) RetP.rt
    · exact Ev.call (gl_compare _) (EvL.cons (Ev.call (gl_fraction _) (EvL.cons (Ev.attr (Ev.name rfl) (at_begin _)) EvL.nil) (c_fraction1 _ _) (by omega)) (EvL.cons (Ev.name rfl) EvL.nil)) (c_compare _ (a := (t.begin, 1)) (b := q) (Bz.one hb) hq hk _) (by omega)
    · exact Ev.call (gl_compare _) (EvL.cons (Ev.call (gl_fraction _) (EvL.cons (Ev.meth0 (Ev.name rfl) (me_end _) (c_end _ _ _) (by omega)) EvL.nil) (c_fraction1 _ _) (by omega)) (EvL.cons (Ev.name rfl) EvL.nil)) (c_compare _ (a := (t.begin + t.len, 1)) (b := q) (Bz.one he) hq hk _) (by omega)
/-- the share, then the point -/
noncomputable def shareOf (t : Side) (q : Int × Int) : Int × Int := fdivd (fminus q (t.begin, 1)) (t.len, 1)
noncomputable def pointOf (t : Side) (q : Int × Int) : (Int × Int) × (Int × Int) :=
  (fplus (t.one.1, 1) (ftimes (shareOf t q) (t.way.1, 1)), fplus (t.one.2, 1) (ftimes (shareOf t q) (t.way.2, 1)))
noncomputable abbrev F2 (p : (Int × Int) × (Int × Int)) : D := .tup [F p.1, F p.2]
theorem c_point_at (w : World) {k : Nat} {t : Side} {q : Int × Int} (hk : k ≤ 4000) (h1 : 1 ≤ k) (hl : t.len ≠ 0)
    (b1 : Bd k t.begin) (b2 : Bd k t.len) (b3 : Bd k t.one.1) (b4 : Bd k t.one.2) (b5 : Bd k t.way.1) (b6 : Bd k t.way.2) (hq : Bz k q) (q1 : Bz k (fminus q (t.begin, 1))) (q2 : Bz k (shareOf t q))
    (q3 : Bz k (ftimes (shareOf t q) (t.way.1, 1))) (q4 : Bz k (ftimes (shareOf t q) (t.way.2, 1))) (σ : Sg) : Fn w (.ref 370) 4 [sideD t, F q] σ σ (F2 (pointOf t q)) := by
  k_dflt (refine' Fn.def_ (es := []) ["self", "distance"] [] ?k6 ?k7 ?hb ?h1 ?h2 ?h3 ?h4 ?h5 ?h6 ?h7 rfl (by decide) ?body)
  walk_at "enter"
  case body =>
    intro c hw hr
    subst hw
    refine Ex.assign (σ1 := σ) (d := F (shareOf t q)) ?_ ?_
    · exact Ev.call (gl_divided _) (EvL.cons (Ev.call (gl_minus _) (EvL.cons (Ev.name rfl) (EvL.cons (Ev.call (gl_fraction _) (EvL.cons (Ev.attr (Ev.name rfl) (at_begin _)) EvL.nil) (c_fraction1 _ _) (by omega)) EvL.nil)) (c_minus _ (a := q) (b := (t.begin, 1)) hq (Bz.one b1) hk _) (by omega)) (EvL.cons (Ev.call (gl_fraction _) (EvL.cons (Ev.attr (Ev.name rfl) (at_length _)) EvL.nil) (c_fraction1 _ _) (by omega)) EvL.nil)) (c_divided _ (a := fminus q (t.begin, 1)) (b := (t.len, 1)) q1 (Bz.one b2) hl hk _) (by omega)
    refine' Ex.ret (σ1 := σ) (Ev.tuple (EvL.cons ?_ (EvL.cons ?_ EvL.nil))) RetP.rt
    · exact Ev.call (gl_plus _) (EvL.cons (Ev.call (gl_fraction _) (EvL.cons (Ev.sub (Ev.attr (Ev.name rfl) (at_one _)) Ev.int (sub_tup rfl rfl)) EvL.nil) (c_fraction1 _ _) (by omega)) (EvL.cons
        (Ev.call (gl_times _) (EvL.cons (Ev.name rfl) (EvL.cons (Ev.call (gl_fraction _) (EvL.cons (Ev.sub (Ev.attr (Ev.name rfl) (at_way _)) Ev.int (sub_tup rfl rfl)) EvL.nil) (c_fraction1 _ _) (by omega)) EvL.nil)) (c_times _ (a := shareOf t q) (b := (t.way.1, 1)) q2 (Bz.one b5) hk _) (by omega)) EvL.nil))
        (c_plus _ (a := (t.one.1, 1)) (b := ftimes (shareOf t q) (t.way.1, 1)) (Bz.one b3) q3 hk _) (by omega)
    · exact Ev.call (gl_plus _) (EvL.cons (Ev.call (gl_fraction _) (EvL.cons (Ev.sub (Ev.attr (Ev.name rfl) (at_one _)) Ev.int (sub_tup rfl rfl)) EvL.nil) (c_fraction1 _ _) (by omega)) (EvL.cons
        (Ev.call (gl_times _) (EvL.cons (Ev.name rfl) (EvL.cons (Ev.call (gl_fraction _) (EvL.cons (Ev.sub (Ev.attr (Ev.name rfl) (at_way _)) Ev.int (sub_tup rfl rfl)) EvL.nil) (c_fraction1 _ _) (by omega)) EvL.nil)) (c_times _ (a := shareOf t q) (b := (t.way.2, 1)) q2 (Bz.one b6) hk _) (by omega)) EvL.nil))
        (c_plus _ (a := (t.one.2, 1)) (b := ftimes (shareOf t q) (t.way.2, 1)) (Bz.one b4) q4 hk _) (by omega)
noncomputable def turnOf (t : Side) : (Int × Int) × (Int × Int) := (frac t.way.1 t.len, frac t.way.2 t.len)
theorem c_turn (w : World) {k : Nat} {t : Side} (hk : k ≤ 4000) (hl : t.len ≠ 0) (b2 : Bd k t.len) (σ : Sg) : Fn w (.ref 377) 3 [sideD t] σ σ (F2 (turnOf t)) := by
  k_dflt (refine' Fn.def_ (es := []) ["self"] [] ?k6 ?k7 ?hb ?h1 ?h2 ?h3 ?h4 ?h5 ?h6 ?h7 rfl (by decide) ?body)
  walk_at "enter"
  case body =>
    intro c hw hr
    subst hw
    refine' Ex.ret (σ1 := σ) (Ev.tuple (EvL.cons ?_ (EvL.cons ?_ EvL.nil))) RetP.rt
    · exact Ev.call (gl_fraction _) (EvL.cons (Ev.sub (Ev.attr (Ev.name rfl) (at_way _)) Ev.int (sub_tup rfl rfl)) (EvL.cons (Ev.attr (Ev.name rfl) (at_length _)) EvL.nil)) (c_fraction _ hl b2 (by omega) _) (by omega)
    · exact Ev.call (gl_fraction _) (EvL.cons (Ev.sub (Ev.attr (Ev.name rfl) (at_way _)) Ev.int (sub_tup rfl rfl)) (EvL.cons (Ev.attr (Ev.name rfl) (at_length _)) EvL.nil)) (c_fraction _ hl b2 (by omega) _) (by omega)
theorem frac_pos {t b : Int} (h : 0 < b) : frac t b = (t / (Int.gcd t b : Int), b / (Int.gcd t b : Int)) := by
  unfold frac
  rw [if_neg (by omega), Int.fdiv_eq_ediv_of_nonneg _ (Int.natCast_nonneg _), Int.fdiv_eq_ediv_of_nonneg _ (Int.natCast_nonneg _)]
theorem gcd_pos {t b : Int} (h : 0 < b) : (0 : Int) < (Int.gcd t b : Int) := by
  have : Int.gcd t b ≠ 0 := fun e => by have := (Int.gcd_eq_zero_iff.mp e).2; omega
  omega
theorem Bz.frac {j k : Nat} {t b : Int} (ht : Bd j t) (hb : Bd k b) (h : 0 < b) (hl : j ≤ k) : Bz k (frac t b) := by
  rw [frac_pos h]
  refine ⟨?_, ?_, ?_⟩
  · have : Bd j (t / (Int.gcd t b : Int)) := by unfold Bd at *; exact Nat.lt_of_le_of_lt (Int.natAbs_ediv_le_natAbs _ _) ht
    exact this.mono hl
  · unfold Bd at *; exact Nat.lt_of_le_of_lt (Int.natAbs_ediv_le_natAbs _ _) hb
  · exact Int.ediv_pos_of_pos_of_dvd h (Int.natCast_nonneg _) (Int.gcd_dvd_right _ _)
theorem Bz.mono {j k : Nat} {a : Int × Int} (h : Bz j a) (hk : j ≤ k) : Bz k a := ⟨h.n.mono hk, h.d.mono hk, h.p⟩
theorem Bd.add {j k : Nat} {a b : Int} (ha : Bd j a) (hb : Bd j b) (hk : j + 1 = k) : Bd k (a + b) := by
  subst hk; unfold Bd at *; rw [Nat.pow_succ]; omega
theorem Bd.sub {j k : Nat} {a b : Int} (ha : Bd j a) (hb : Bd j b) (hk : j + 1 = k) : Bd k (a - b) := by
  subst hk; unfold Bd at *; rw [Nat.pow_succ]; omega
theorem Bz.plus {j k l : Nat} {a b : Int × Int} (ha : Bz j a) (hb : Bz k b) (hl : j + k + 1 ≤ l) : Bz l (fplus a b) :=
  (Bz.frac (((ha.n.mul hb.d).add ((hb.n.mul ha.d).mono (k' := j + k) (by omega)) rfl)) ((ha.d.mul hb.d).mono (by omega)) (Int.mul_pos ha.p hb.p) (Nat.le_refl _)).mono hl
theorem Bz.minus {j k l : Nat} {a b : Int × Int} (ha : Bz j a) (hb : Bz k b) (hl : j + k + 1 ≤ l) : Bz l (fminus a b) :=
  (Bz.frac (((ha.n.mul hb.d).sub ((hb.n.mul ha.d).mono (k' := j + k) (by omega)) rfl)) ((ha.d.mul hb.d).mono (by omega)) (Int.mul_pos ha.p hb.p) (Nat.le_refl _)).mono hl
theorem Bz.times {j k l : Nat} {a b : Int × Int} (ha : Bz j a) (hb : Bz k b) (hl : j + k ≤ l) : Bz l (ftimes a b) :=
  (Bz.frac (ha.n.mul hb.n) (ha.d.mul hb.d) (Int.mul_pos ha.p hb.p) (Nat.le_refl _)).mono hl
theorem Bz.divd {j k l : Nat} {a b : Int × Int} (ha : Bz j a) (hb : Bz k b) (h0 : 0 < b.1) (hl : j + k ≤ l) : Bz l (fdivd a b) :=
  (Bz.frac (ha.n.mul hb.d) (ha.d.mul hb.n) (Int.mul_pos ha.p h0) (Nat.le_refl _)).mono hl
theorem c_point (w : World) {k : Nat} {t : Side} {q : Int × Int} (hk : k ≤ 100) (h1 : 1 ≤ k) (hl : 0 < t.len)
    (b1 : Bd k t.begin) (b2 : Bd k t.len) (b3 : Bd k t.one.1) (b4 : Bd k t.one.2) (b5 : Bd k t.way.1) (b6 : Bd k t.way.2) (hq : Bz k q) (σ : Sg) : Fn w (.ref 370) 4 [sideD t, F q] σ σ (F2 (pointOf t q)) := by
  have q1 : Bz (2 * k + 1) (fminus q (t.begin, 1)) := hq.minus (Bz.one b1) (by omega)
  have q2 : Bz (3 * k + 1) (shareOf t q) := q1.divd (Bz.one b2) hl (by omega)
  exact c_point_at w (k := 1000) (by omega) (by omega) (by omega) (b1.mono (by omega)) (b2.mono (by omega)) (b3.mono (by omega)) (b4.mono (by omega)) (b5.mono (by omega)) (b6.mono (by omega)) (hq.mono (by omega)) (q1.mono (by omega)) (q2.mono (by omega))
    ((q2.times (Bz.one b5) (Nat.le_refl _)).mono (by omega)) ((q2.times (Bz.one b6) (Nat.le_refl _)).mono (by omega)) σ
/-- a matrix -/
noncomputable abbrev P6 := (Int × Int) × (Int × Int) × (Int × Int) × (Int × Int) × (Int × Int) × (Int × Int)
noncomputable abbrev matD (m : P6) : D := .obj 195 [("a", F m.1), ("b", F m.2.1), ("c", F m.2.2.1), ("d", F m.2.2.2.1), ("e", F m.2.2.2.2.1), ("f", F m.2.2.2.2.2)]
noncomputable abbrev rowD (m : P6) : D := .tup [F m.1, F m.2.1, F m.2.2.1, F m.2.2.2.1, F m.2.2.2.2.1, F m.2.2.2.2.2]
theorem c_Matrix (w : World) (m : P6) (σ : Sg) : Fn w (.ref 195) 2 [F m.1, F m.2.1, F m.2.2.1, F m.2.2.2.1, F m.2.2.2.2.1, F m.2.2.2.2.2] σ σ (matD m) := by
  k_dflt (refine' Fn.cls_ (es := []) "self" ["a", "b", "c", "d", "e", "f"] ?m1 ?m2 ?m3 ?k6 ?k7 ?hb ?h1 ?h2 ?h3 ?h5 ?h6 ?h7 (by decide) ?body)
  walk_at "entercls"
  case body =>
    intro c x₀ dx hw hr
    subst hw
    refine Ex.setSelf (σ1 := σ) rfl (Ev.name rfl) ⟨by k_is, by k_is, by k_is, by k_is⟩ rfl ?_ (Nat.le_of_ble_eq_true rfl)
    refine Ex.setSelf (σ1 := σ) rfl (Ev.name rfl) ⟨by k_is, by k_is, by k_is, by k_is⟩ rfl ?_ (Nat.le_of_ble_eq_true rfl)
    refine Ex.setSelf (σ1 := σ) rfl (Ev.name rfl) ⟨by k_is, by k_is, by k_is, by k_is⟩ rfl ?_ (Nat.le_of_ble_eq_true rfl)
    refine Ex.setSelf (σ1 := σ) rfl (Ev.name rfl) ⟨by k_is, by k_is, by k_is, by k_is⟩ rfl ?_ (Nat.le_of_ble_eq_true rfl)
    refine Ex.setSelf (σ1 := σ) rfl (Ev.name rfl) ⟨by k_is, by k_is, by k_is, by k_is⟩ rfl ?_ (Nat.le_of_ble_eq_true rfl)
    refine Ex.setSelf (σ1 := σ) rfl (Ev.name rfl) ⟨by k_is, by k_is, by k_is, by k_is⟩ rfl ?_ (Nat.le_of_ble_eq_true rfl)
    exact Ex.nil (NextP.rtO rfl)
theorem at_a (w : World) : At w 195 "a" := ⟨by k_is, by k_is, _, by k_is, by k_is⟩
theorem at_b (w : World) : At w 195 "b" := ⟨by k_is, by k_is, _, by k_is, by k_is⟩
theorem at_c (w : World) : At w 195 "c" := ⟨by k_is, by k_is, _, by k_is, by k_is⟩
theorem at_d (w : World) : At w 195 "d" := ⟨by k_is, by k_is, _, by k_is, by k_is⟩
theorem at_e (w : World) : At w 195 "e" := ⟨by k_is, by k_is, _, by k_is, by k_is⟩
theorem at_f (w : World) : At w 195 "f" := ⟨by k_is, by k_is, _, by k_is, by k_is⟩
theorem me_row (w : World) : Me w 195 "row" 157 := ⟨by k_is, by k_is, by k_is, by k_is⟩
theorem c_row (w : World) (m : P6) (σ : Sg) : Fn w (.ref 157) 1 [matD m] σ σ (rowD m) := by
  k_dflt (refine' Fn.def_ (es := []) ["self"] [] ?k6 ?k7 ?hb ?h1 ?h2 ?h3 ?h4 ?h5 ?h6 ?h7 rfl (by decide) ?body)
  walk_at "enter"
  case body =>
    intro c hw hr
    subst hw
    exact Ex.ret (σ1 := σ) (Ev.tuple (EvL.cons (Ev.attr (Ev.name rfl) (at_a _)) (EvL.cons (Ev.attr (Ev.name rfl) (at_b _)) (EvL.cons (Ev.attr (Ev.name rfl) (at_c _)) (EvL.cons (Ev.attr (Ev.name rfl) (at_d _)) (EvL.cons (Ev.attr (Ev.name rfl) (at_e _)) (EvL.cons (Ev.attr (Ev.name rfl) (at_f _)) EvL.nil))))))) RetP.rt
/-- a letter -/
structure Let where
  glyph : Int
  adv : Int
  begin : Int
noncomputable abbrev letD (l : Let) : D := .obj 300 [("glyph", .int l.glyph), ("advance", .int l.adv), ("begin", .int l.begin)]
theorem at_glyph (w : World) : At w 300 "glyph" := ⟨by k_is, by k_is, _, by k_is, by k_is⟩
theorem at_advance (w : World) : At w 300 "advance" := ⟨by k_is, by k_is, _, by k_is, by k_is⟩
theorem at_lbegin (w : World) : At w 300 "begin" := ⟨by k_is, by k_is, _, by k_is, by k_is⟩
theorem c_Letter (w : World) (l : Let) (σ : Sg) : Fn w (.ref 300) 2 [.int l.glyph, .int l.adv, .int l.begin] σ σ (letD l) := by
  k_dflt (refine' Fn.cls_ (es := []) "self" ["glyph", "advance", "begin"] ?m1 ?m2 ?m3 ?k6 ?k7 ?hb ?h1 ?h2 ?h3 ?h5 ?h6 ?h7 (by decide) ?body)
  walk_at "entercls"
  case body =>
    intro c x₀ dx hw hr
    subst hw
    refine Ex.setSelf (σ1 := σ) rfl (Ev.name rfl) ⟨by k_is, by k_is, by k_is, by k_is⟩ rfl ?_ (Nat.le_of_ble_eq_true rfl)
    refine Ex.setSelf (σ1 := σ) rfl (Ev.name rfl) ⟨by k_is, by k_is, by k_is, by k_is⟩ rfl ?_ (Nat.le_of_ble_eq_true rfl)
    refine Ex.setSelf (σ1 := σ) rfl (Ev.name rfl) ⟨by k_is, by k_is, by k_is, by k_is⟩ rfl ?_ (Nat.le_of_ble_eq_true rfl)
    exact Ex.nil (NextP.rtO rfl)
noncomputable def fneg (a : Int × Int) : Int × Int := (-a.1, a.2)
noncomputable def turnedOf (scale half : Int × Int) (turn place : (Int × Int) × (Int × Int)) : P6 :=
  (ftimes scale turn.1, ftimes scale turn.2, ftimes scale turn.2, fneg (ftimes scale turn.1), fminus place.1 (ftimes turn.1 (ftimes scale half)), fminus place.2 (ftimes turn.2 (ftimes scale half)))
theorem c_turned (w : World) {k : Nat} {scale half : Int × Int} {turn place : (Int × Int) × (Int × Int)} (hk : k ≤ 600) (h1 : Bz k scale) (h2 : Bz k half) (h3 : Bz k turn.1) (h4 : Bz k turn.2) (h5 : Bz k place.1) (h6 : Bz k place.2) (σ : Sg) :
    Fn w (.ref 412) 4 [F scale, F half, F2 turn, F2 place] σ σ (matD (turnedOf scale half turn place)) := by
  have hb : Bz (2 * k) (ftimes scale half) := h1.times h2 (by omega)
  k_dflt (refine' Fn.def_ (es := []) ["scale", "half", "turn", "place"] [] ?k6 ?k7 ?hb ?h1 ?h2 ?h3 ?h4 ?h5 ?h6 ?h7 rfl (by decide) ?body)
  walk_at "enter"
  case body =>
    intro c hw hr
    subst hw
    refine Ex.unpack2 (σ1 := σ) (d1 := F turn.1) (d2 := F turn.2) (Ev.name rfl) ?_
    refine Ex.assign (σ1 := σ) (d := F (ftimes scale half)) (Ev.call (gl_times _) (EvL.cons (Ev.name rfl) (EvL.cons (Ev.name rfl) EvL.nil)) (c_times _ (k := k) h1 h2 (by omega) _) (by omega)) ?_
    refine Ex.assign (σ1 := σ) (d := F (fminus place.1 (ftimes turn.1 (ftimes scale half)))) (Ev.call (gl_minus _) (EvL.cons (Ev.sub (Ev.name rfl) Ev.int (sub_tup rfl rfl)) (EvL.cons (Ev.call (gl_times _) (EvL.cons (Ev.name rfl) (EvL.cons (Ev.name rfl) EvL.nil)) (c_times _ (a := turn.1) (k := 2 * k) (h3.mono (by omega)) hb (by omega) _) (by omega)) EvL.nil))
      (c_minus _ (a := place.1) (k := 3 * k) (h5.mono (by omega)) (h3.times hb (by omega)) (by omega) _) (by omega)) ?_
    refine Ex.assign (σ1 := σ) (d := F (fminus place.2 (ftimes turn.2 (ftimes scale half)))) (Ev.call (gl_minus _) (EvL.cons (Ev.sub (Ev.name rfl) Ev.int (sub_tup rfl rfl)) (EvL.cons (Ev.call (gl_times _) (EvL.cons (Ev.name rfl) (EvL.cons (Ev.name rfl) EvL.nil)) (c_times _ (a := turn.2) (k := 2 * k) (h4.mono (by omega)) hb (by omega) _) (by omega)) EvL.nil))
      (c_minus _ (a := place.2) (k := 3 * k) (h6.mono (by omega)) (h4.times hb (by omega)) (by omega) _) (by omega)) ?_
    have tc : Fn c.w (.ref 101) 3 [F scale, F turn.1] σ σ (F (ftimes scale turn.1)) := c_times _ (k := k) h1 h3 (by omega) _
    have ts : Fn c.w (.ref 101) 3 [F scale, F turn.2] σ σ (F (ftimes scale turn.2)) := c_times _ (k := k) h1 h4 (by omega) _
    refine' Ex.ret (σ1 := σ) (Ev.call (gl_Matrix _) (EvL.cons ?_ (EvL.cons ?_ (EvL.cons ?_ (EvL.cons ?_ (EvL.cons ?_ (EvL.cons ?_ EvL.nil)))))) (c_Matrix _ (turnedOf scale half turn place) _) (by omega)) RetP.rt
    · exact Ev.call (gl_times _) (EvL.cons (Ev.name rfl) (EvL.cons (Ev.name rfl) EvL.nil)) tc (by omega)
    · exact Ev.call (gl_times _) (EvL.cons (Ev.name rfl) (EvL.cons (Ev.name rfl) EvL.nil)) ts (by omega)
    · exact Ev.call (gl_times _) (EvL.cons (Ev.name rfl) (EvL.cons (Ev.name rfl) EvL.nil)) ts (by omega)
    · exact Ev.call (gl_negated _) (EvL.cons (Ev.call (gl_times _) (EvL.cons (Ev.name rfl) (EvL.cons (Ev.name rfl) EvL.nil)) tc (by omega)) EvL.nil) (c_negated _ (a := ftimes scale turn.1) _) (by omega)
    · exact Ev.name rfl
    · exact Ev.name rfl
noncomputable def middleOf (l : Let) (begin scale : Int × Int) (grain : Int) : Int × Int :=
  ftimes (fplus begin (ftimes scale (fplus (l.begin, 1) (frac l.adv 2)))) (grain, 1)
theorem bd2 : Bd 2 2 := by show (2 : Int).natAbs < 2 ^ 2; decide
theorem Bz.half {k : Nat} {n : Int} (h : Bd k n) (h2 : 2 ≤ k) : Bz k (Mine.frac n 2) := Bz.frac h (bd2.mono h2) (by decide) (Nat.le_refl _)
theorem c_middle_along (w : World) {k : Nat} {l : Let} {begin scale : Int × Int} {grain : Int} (hk : k ≤ 600) (hk2 : 2 ≤ k) (h1 : Bd k l.begin) (h2 : Bd k l.adv) (h3 : Bz k begin) (h4 : Bz k scale) (h5 : Bd k grain) (σ : Sg) :
    Fn w (.ref 419) 4 [letD l, F begin, F scale, .int grain] σ σ (F (middleOf l begin scale grain)) := by
  have a1 : Bz k (frac l.adv 2) := Bz.half h2 hk2
  have a2 : Bz (2 * k + 1) (fplus (l.begin, 1) (frac l.adv 2)) := (Bz.one h1).plus a1 (by omega)
  have a3 : Bz (3 * k + 1) (ftimes scale (fplus (l.begin, 1) (frac l.adv 2))) := h4.times a2 (by omega)
  have a4 : Bz (4 * k + 2) (fplus begin (ftimes scale (fplus (l.begin, 1) (frac l.adv 2)))) := h3.plus a3 (by omega)
  k_dflt (refine' Fn.def_ (es := []) ["letter", "begin", "scale", "grain"] [] ?k6 ?k7 ?hb ?h1 ?h2 ?h3 ?h4 ?h5 ?h6 ?h7 rfl (by decide) ?body)
  walk_at "enter"
  case body =>
    intro c hw hr
    subst hw
    refine' Ex.assign (σ1 := σ) (d := F (fplus begin (ftimes scale (fplus (l.begin, 1) (frac l.adv 2))))) (Ev.call (gl_plus _) (EvL.cons (Ev.name rfl) (EvL.cons (Ev.call (gl_times _) (EvL.cons (Ev.name rfl) (EvL.cons
      (Ev.call (gl_plus _) (EvL.cons (Ev.call (gl_fraction _) (EvL.cons (Ev.attr (Ev.name rfl) (at_lbegin _)) EvL.nil) (c_fraction1 _ _) (by omega)) (EvL.cons (Ev.call (gl_fraction _) (EvL.cons (Ev.attr (Ev.name rfl) (at_advance _)) (EvL.cons Ev.int EvL.nil)) (c_fraction _ (by decide) bd2 (by omega) _) (by omega)) EvL.nil))
        (c_plus _ (a := (l.begin, 1)) (k := k) (Bz.one h1) a1 (by omega) _) (by omega)) EvL.nil)) (c_times _ (k := 2 * k + 1) (h4.mono (by omega)) a2 (by omega) _) (by omega)) EvL.nil)) (c_plus _ (k := 3 * k + 1) (h3.mono (by omega)) a3 (by omega) _) (by omega)) ?_
    refine Ex.ret (σ1 := σ) (Ev.call (gl_times _) (EvL.cons (Ev.name rfl) (EvL.cons (Ev.call (gl_fraction _) (EvL.cons (Ev.name rfl) EvL.nil) (c_fraction1 _ _) (by omega)) EvL.nil)) (c_times _ (b := (grain, 1)) (k := 4 * k + 2) a4 (Bz.one (h5.mono (by omega))) (by omega) _) (by omega)) RetP.rt
theorem c_spot (w : World) {p : Int × Int} {r : D} (σ : Sg) : Fn w (.ref 254) 3 [.tup [.int p.1, .int p.2, r]] σ σ (F2 ((p.1, 1), (p.2, 1))) := by
  k_dflt (refine' Fn.def_ (es := []) ["point"] [] ?k6 ?k7 ?hb ?h1 ?h2 ?h3 ?h4 ?h5 ?h6 ?h7 rfl (by decide) ?body)
  walk_at "enter"
  case body =>
    intro c hw hr
    subst hw
    refine' Ex.ret (σ1 := σ) (Ev.tuple (EvL.cons ?_ (EvL.cons ?_ EvL.nil))) RetP.rt
    · exact Ev.call (gl_fraction _) (EvL.cons (Ev.sub (Ev.name rfl) Ev.int (sub_tup rfl rfl)) EvL.nil) (c_fraction1 _ _) (by omega)
    · exact Ev.call (gl_fraction _) (EvL.cons (Ev.sub (Ev.name rfl) Ev.int (sub_tup rfl rfl)) EvL.nil) (c_fraction1 _ _) (by omega)
/-- the first side that holds q -/
noncomputable def sideAt (ts : List Side) (q : Int × Int) : Option Side := ts.find? fun t => holdsB t q
noncomputable def sideOD : Option Side → D
  | none => .none
  | some t => sideD t
theorem map_get {α : Type} {f : α → D} {ts : List α} {i : Nat} {d : D} (h : (ts.map f)[i]? = some d) : ∃ t, ts[i]? = some t ∧ d = f t := by
  rw [List.getElem?_map, Option.map_eq_some_iff] at h
  obtain ⟨t, h1, h2⟩ := h
  exact ⟨t, h1, h2.symm⟩
theorem c_side_at (w : World) {k : Nat} {ts : List Side} {q : Int × Int} (hb : ∀ t ∈ ts, Bd k t.begin ∧ Bd k (t.begin + t.len)) (hq : Bz k q) (hk : k ≤ 4000) (h1 : 1 ≤ k) (σ : Sg) : Fn w (.ref 405) 4 [.lst (ts.map sideD), F q] σ σ (sideOD (sideAt ts q)) := by
  k_dflt (refine' Fn.def_ (es := []) ["sides", "distance"] [] ?k6 ?k7 ?hb ?h1 ?h2 ?h3 ?h4 ?h5 ?h6 ?h7 rfl (by decide) ?body)
  walk_at "enter"
  case body =>
    intro c hw hr
    subst hw
    refine Ex.forI (fun i => ∀ (j : Nat) (hj : j < ts.length), j < i → holdsB ts[j] q = false) (fun _ => σ) (fun _ => [("sides", .val (.lst (ts.map sideD))), ("distance", .val (F q))]) (EvIt.lst (Ev.name rfl)) (fun j hj h => absurd h (Nat.not_lt_zero _)) (List.forall_mem_cons.mpr ⟨rfl, List.forall_mem_cons.mpr ⟨rfl, List.forall_mem_nil _⟩⟩) (fun i d hd => ?_) fun hI => ?_
    · obtain ⟨t, ht, rfl⟩ := map_get hd
      obtain ⟨hi, hti⟩ := List.getElem?_eq_some_iff.mp ht
      have hbt := hb t (List.mem_of_getElem? ht)
      refine ⟨[("side", .val (sideD t))], fun ρ0 => ⟨tg_name, fun hI Zs E => ?_⟩⟩
      refine Ex.if_ (σ1 := E ++ σ) (b := holdsB t q) (Tv.val (Ev.meth (Ev.name rfl) (me_holds _) (EvL.cons (Ev.name rfl) EvL.nil) (c_holds _ hbt.1 hbt.2 hq hk h1 _) (by show 3 ≤ c.room; omega))) (fun hh => ?_) fun hh => Ex.nil (NextP.then_ ?_)
      · have e : sideAt ts q = some t := by
          unfold sideAt
          rw [List.find?_eq_some_iff_getElem]
          exact ⟨hh, i, hi, hti, fun j hj => by rw [hI j (by omega) hj]; rfl⟩
        rw [e]
        exact Ex.ret (Ev.name rfl) (RetP.then_ (ForP.ret rfl RetP.rt))
      · refine Ex.nil (ForP.nextI (fun j hj hji => ?_) rfl (List.forall_mem_cons.mpr ⟨rfl, List.forall_mem_cons.mpr ⟨rfl, List.forall_mem_nil _⟩⟩))
        rcases Nat.lt_succ_iff_lt_or_eq.mp hji with h | rfl
        · exact hI j hj h
        · rw [hti]; exact hh
    · have e : sideAt ts q = none := by
        unfold sideAt
        rw [List.find?_eq_none]
        intro t ht
        obtain ⟨j, hj, rfl⟩ := List.getElem_of_mem ht
        rw [hI j hj (by simpa using hj)]; simp
      rw [e]
      exact Ex.ret Ev.none RetP.rt
theorem NextP.weak {P : Flow → Shared → Prop} {c : Cx} {S : Scope} {σ : Sg} {ρ ρm : Rho} (h : NextP P c S σ ρm) (hr : ∀ p ∈ ρm, ρ.lookup p.1 = some p.2) : NextP P c S σ ρ := fun s F => h s (F.weaken (fun x b e => hr (x, b) (mem_lookup e)) (fun _ _ e => e) fun _ e => e)
theorem Ex.ifJ {c : Cx} {S : Scope} {σ σ1 σm : Sg} {ρ ρm : Rho} {test : Expr} {body orelse : List Stmt} {pos : Pos} {b : Bool} {rest : List Stmt} {P : Flow → Shared → Prop} (h1 : Tv c S .none σ ρ [] test σ1 b)
    (h2 : b = true → ∀ P', NextP P' c S σm ρm → Ex c S σ1 ρ body P') (h3 : b = false → ∀ P', NextP P' c S σm ρm → Ex c S σ1 ρ orelse P') (h4 : Ex c S σm ρm rest P) : Ex c S σ ρ (.If test body orelse pos :: rest) P :=
  Ex.if_ h1 (fun hb => h2 hb _ (NextP.then_ h4)) fun hb => h3 hb _ (NextP.then_ h4)
theorem Fn.weak {w : World} {f : Value} {n n' : Nat} {ds : List D} {σ σ' : Sg} {d : D} (h : Fn w f n ds σ σ' d) (hn : n ≤ n') : Fn w f n' ds σ σ' d := fun c S κ ρ lv T vs s A R h1 h2 h3 h4 h5 h6 h7 =>
  h c S κ ρ lv T vs s A R h1 h2 (by omega) (by omega) h5 h6 h7
theorem c_length_of (w : World) {as ks : List Int} (σ : Sg) : Fn w (.ref 311) 1 [.lst (as.map .int), .lst (ks.map .int)] σ σ (.int (as.sum + ks.sum)) := by
  k_dflt (refine' Fn.def_ (es := []) ["advances", "kerns"] [] ?k6 ?k7 ?hb ?h1 ?h2 ?h3 ?h4 ?h5 ?h6 ?h7 rfl (by decide) ?body)
  walk_at "enter"
  case body =>
    intro c hw hr
    subst hw
    exact Ex.ret (σ1 := σ) (Ev.bin (Ev.bcall (bt_sum _) (EvL.cons (Ev.name rfl) EvL.nil) bf_sum) (Ev.bcall (bt_sum _) (EvL.cons (Ev.name rfl) EvL.nil) bf_sum) bin_add) RetP.rt
/-- where the letters begin -/
noncomputable def begAt (as ks : List Int) : Nat → List Int × Int
  | 0 => ([], 0)
  | i + 1 => let p := begAt as ks i
    let a := if i = 0 then p.2 else p.2 + ks.getD (i - 1) 0
    (p.1 ++ [a], a + as.getD i 0)
theorem begAt_len (as ks : List Int) : ∀ i, (begAt as ks i).1.length = i
  | 0 => rfl
  | i + 1 => by simp [begAt, begAt_len as ks i]
theorem getD_some {l : List Int} {i : Nat} (h : i < l.length) : (l.map D.int)[i]? = some (.int (l.getD i 0)) := by
  rw [List.getElem?_map, List.getElem?_eq_getElem h]
  simp [List.getD, List.getElem?_eq_getElem h]
theorem c_begins_of (w : World) {as ks : List Int} (hz : as.length ≤ 900) (hk : as.length ≤ ks.length + 1) (σ : Sg) : Fn w (.ref 318) 1 [.lst (as.map .int), .lst (ks.map .int)] σ σ (.lst ((begAt as ks as.length).1.map .int)) := by
  k_dflt (refine' Fn.def_ (es := []) ["advances", "kerns"] [] ?k6 ?k7 ?hb ?h1 ?h2 ?h3 ?h4 ?h5 ?h6 ?h7 rfl (by decide) ?body)
  walk_at "enter"
  case body =>
    intro c hw hr
    subst hw
    refine Ex.own2 (fun l => ?_) rfl (.inl rfl)
    have ln : (as.map D.int).length = as.length := by simp
    refine Ex.for_ (ds := upTo as.length) (fun _ => σ) (fun i => [("found", .own l ((begAt as ks i).1.map .int)), ("at", .val (.int (begAt as ks i).2)), ("advances", .val (.lst (as.map .int))), ("kerns", .val (.lst (ks.map .int)))]) none
      (EvIt.range (bt_range _) (Ev.bcall (bt_len _) (EvL.cons (Ev.name rfl) EvL.nil) (bf_lenL (by rw [ln]; omega))) (by rw [ln]) (by omega))
      (List.forall_mem_cons.mpr ⟨rfl, List.forall_mem_cons.mpr ⟨rfl, List.forall_mem_cons.mpr ⟨rfl, List.forall_mem_cons.mpr ⟨rfl, List.forall_mem_nil _⟩⟩⟩⟩) (fun i d hd => ?_) ?_ fun b e => by cases e
    · obtain ⟨hi, rfl⟩ := upTo_is hd
      refine ⟨_, tg_name, fun Zs E => ?_⟩
      have e1 : (begAt as ks (i + 1)).1.map D.int = (begAt as ks i).1.map .int ++ [.int (if i = 0 then (begAt as ks i).2 else (begAt as ks i).2 + ks.getD (i - 1) 0)] := by simp [begAt]
      have e2 : (begAt as ks (i + 1)).2 = (if i = 0 then (begAt as ks i).2 else (begAt as ks i).2 + ks.getD (i - 1) 0) + as.getD i 0 := by simp [begAt]
      rw [e1, e2]
      generalize ha : (if i = 0 then (begAt as ks i).2 else (begAt as ks i).2 + ks.getD (i - 1) 0) = a
      refine Ex.ifJ (σ1 := E ++ σ) (b := decide ((0 : Int) < (i : Int))) (σm := E ++ σ) (ρm := [("at", .val (.int a)), ("number", .val (.int i)), ("found", .own l ((begAt as ks i).1.map .int)), ("advances", .val (.lst (as.map .int))), ("kerns", .val (.lst (ks.map .int)))]) (Tv.cmp (Ev.name rfl) Ev.int cmp_gt) (fun hb P hP => ?_) (fun hb P hP => ?_) ?_
      · have h0 : i ≠ 0 := by have := of_decide_eq_true hb; omega
        rw [if_neg h0] at ha
        have hki : i - 1 < ks.length := by omega
        refine Ex.assign (σ1 := E ++ σ) (d := .int a) ?_ (Ex.nil (hP.weak (List.forall_mem_cons.mpr ⟨rfl, List.forall_mem_cons.mpr ⟨rfl, List.forall_mem_cons.mpr ⟨rfl, List.forall_mem_cons.mpr ⟨rfl, List.forall_mem_cons.mpr ⟨rfl, List.forall_mem_nil _⟩⟩⟩⟩⟩)))
        rw [← ha]
        refine Ev.bin (Ev.name rfl) (Ev.sub (Ev.name rfl) (Ev.bin (Ev.name rfl) Ev.int bin_sub) (sub_lst (by omega) (by omega) ?_)) bin_add
        rw [show ((i : Int) - 1).toNat = i - 1 by omega]; exact getD_some hki
      · have h0 : i = 0 := by have := of_decide_eq_false hb; omega
        rw [if_pos h0] at ha
        subst ha
        exact Ex.nil (hP.weak (List.forall_mem_cons.mpr ⟨rfl, List.forall_mem_cons.mpr ⟨rfl, List.forall_mem_cons.mpr ⟨rfl, List.forall_mem_cons.mpr ⟨rfl, List.forall_mem_cons.mpr ⟨rfl, List.forall_mem_nil _⟩⟩⟩⟩⟩))
      · refine Ex.append (σ1 := E ++ σ) (d := .int a) rfl (Ev.name rfl) ?_ (by simp [begAt_len]; omega)
        refine Ex.assign (σ1 := E ++ σ) (d := .int (a + as.getD i 0)) (Ev.bin (Ev.name rfl) (Ev.sub (Ev.name rfl) (Ev.name rfl) (sub_lst (by omega) (by omega) (by rw [Int.toNat_natCast]; exact getD_some hi))) bin_add) (Ex.nil (ForP.next rfl (List.forall_mem_cons.mpr ⟨rfl, List.forall_mem_cons.mpr ⟨rfl, List.forall_mem_cons.mpr ⟨rfl, List.forall_mem_cons.mpr ⟨rfl, List.forall_mem_nil _⟩⟩⟩⟩)))
    · refine Ex.freeze (x := "found") rfl ?_
      rw [upTo_length]
      exact Ex.ret (Ev.name rfl) RetP.rt
theorem anchors_at (w : World) : ∃ o n t1 t2 t3, (hd.heap_1 w.params).lookup 283 = some o ∧ o.cls = .type "tuple" ∧ o.data = .seq #[.str "start" t1, .str "middle" t2, .str "end" t3] n := by
  exact ⟨_, _, _, _, _, by k_is, rfl, rfl⟩
theorem cmp_notAnchor (w : World) {x : Str} (hx : x = "start" ∨ x = "middle" ∨ x = "end") : Cmp w .NotIn (.str x) (.val (.ref 283)) false := fun c S κ σ ρ lv T s Q v1 v2 hw F h => by
  subst hw
  obtain rfl := F.isVal (.head _)
  obtain ⟨t, rfl⟩ := F.isStr (.tail _ (.head _))
  obtain ⟨o, n, t1, t2, t3, ho, hc, hd⟩ := anchors_at c.w
  have r1 : Reads s.heap (.ref 283) (.tuple [.str "start", .str "middle", .str "end"]) _ := reads_tuple_at (F.K _ _ ho) hc hd (.cons (.str _ _) (.cons (.str _ _) (.cons (.str _ _) .nil)))
  refine PySem.SeqAt.notIn_tuple_reads r1 (.str x t) (by decide +kernel) ?_ ?_ ?_
  · rcases hx with rfl | rfl | rfl <;> decide +kernel
  · have := F.ok.units
    have e : min (PyData.depthAll [.str "start", .str "middle", .str "end"]) (PyData.str x).depth ≤ 0 := Nat.min_le_right _ _
    omega
  · have e : (!([PyData.str "start", .str "middle", .str "end"].any fun y => PyData.eqv y (.str x))) = false := by
      rcases hx with rfl | rfl | rfl <;> decide +kernel
    rw [e]
    exact h _ F.drop2
noncomputable def shiftOf (len : Int) (x : Str) : Int × Int := if x = "start" then (0, 1) else if x = "middle" then frac (0 - len) 2 else (0 - len, 1)
theorem c_anchor_shift (w : World) {len : Int} {x : Str} (hx : x = "start" ∨ x = "middle" ∨ x = "end") (σ : Sg) : Fn w (.ref 325) 3 [.int len, .str x] σ σ (F (shiftOf len x)) := by
  k_dflt (refine' Fn.def_ (es := []) ["length", "anchor"] [] ?k6 ?k7 ?hb ?h1 ?h2 ?h3 ?h4 ?h5 ?h6 ?h7 rfl (by decide) ?body)
  walk_at "enter"
  case body =>
    intro c hw hr
    subst hw
    refine Ex.if_ (σ1 := σ) (b := false) (Tv.cmp (Ev.name rfl) (Ev.glob (na_ANCHORS _)) (cmp_notAnchor _ hx)) (fun h => by cases h) fun _ => Ex.nil (NextP.then_ ?_)
    refine Ex.if_ (σ1 := σ) (b := x == "start") (Tv.cmp (Ev.name rfl) Ev.str cmp_eqS) (fun h => ?_) fun h => Ex.nil (NextP.then_ ?_)
    · have e : shiftOf len x = (0, 1) := if_pos (eq_of_beq h)
      rw [e]
      exact Ex.ret (σ1 := σ) (Ev.call (gl_fraction _) (EvL.cons Ev.int EvL.nil) (c_fraction1 _ _) (by omega)) RetP.rt.then_
    · have h0 : ¬ x = "start" := fun e => by rw [e] at h; simp at h
      refine Ex.ret (σ1 := σ) (Ev.ifexp (σ1 := σ) (b := x == "middle") (Tv.cmp (Ev.name rfl) Ev.str cmp_eqS) (fun h1 => ?_) fun h1 => ?_) RetP.rt
      · have e : shiftOf len x = frac (0 - len) 2 := (if_neg h0).trans (if_pos (eq_of_beq h1))
        rw [e]
        exact Ev.call (gl_fraction _) (EvL.cons (Ev.bin Ev.int (Ev.name rfl) bin_sub) (EvL.cons Ev.int EvL.nil)) (c_fraction _ (by decide) bd2 (by omega) _) (by omega)
      · have h2 : ¬ x = "middle" := fun e => by rw [e] at h1; simp at h1
        have e : shiftOf len x = (0 - len, 1) := (if_neg h0).trans (if_neg h2)
        rw [e]
        exact Ev.call (gl_fraction _) (EvL.cons (Ev.bin Ev.int (Ev.name rfl) bin_sub) EvL.nil) (c_fraction1 _ _) (by omega)
/-- a way's length, as the law reckons it -/
noncomputable def farOf (v : Int × Int) : Int :=
  let m := if (if v.2 < 0 then -v.2 else v.2) > (if v.1 < 0 then -v.1 else v.1) then (if v.2 < 0 then -v.2 else v.2) else (if v.1 < 0 then -v.1 else v.1)
  if v.1 ≠ 0 ∧ v.2 ≠ 0 then (m * 5).fdiv 4 else m
/-- the ways are of whole length and not too large -/
structure GoodWay (v : Int × Int) : Prop where
  sq : v.1 * v.1 + v.2 * v.2 = farOf v * farOf v
  nn : 0 ≤ farOf v
  bf : Bd 20 (farOf v)
  b1 : Bd 20 v.1
  b2 : Bd 20 v.2
noncomputable abbrev pt (ps : List (Int × Int)) (i : Nat) : Int × Int := ps.getD i (0, 0)
noncomputable abbrev wayAt (ps : List (Int × Int)) (i : Nat) : Int × Int := ((pt ps (i + 1)).1 - (pt ps i).1, (pt ps (i + 1)).2 - (pt ps i).2)
/-- the sides that the first i ways make -/
noncomputable def sidesTo (ps : List (Int × Int)) : Nat → List Side × Int
  | 0 => ([], 0)
  | i + 1 => if 0 < farOf (wayAt ps i) then ((sidesTo ps i).1 ++ [⟨pt ps i, wayAt ps i, farOf (wayAt ps i), (sidesTo ps i).2⟩], (sidesTo ps i).2 + farOf (wayAt ps i)) else sidesTo ps i
theorem sidesTo_len (ps : List (Int × Int)) : ∀ i, (sidesTo ps i).1.length ≤ i
  | 0 => Nat.le_refl _
  | i + 1 => by
    have := sidesTo_len ps i
    unfold sidesTo
    split
    · simp; omega
    · omega
theorem pt_get {ps : List (Int × Int)} {i : Nat} (h : i < ps.length) : (ps.map P2)[i]? = some (P2 (pt ps i)) := by
  rw [List.getElem?_map, List.getElem?_eq_getElem h]
  simp [pt, List.getD, List.getElem?_eq_getElem h]
noncomputable def roundOf (ps : List (Int × Int)) (closed : Bool) : List (Int × Int) := ps ++ (if closed then ps.take 1 else [])
theorem c_path_sides (w : World) {ps : List (Int × Int)} {closed : Bool} (hz : ps.length ≤ 100) (h0 : 1 ≤ ps.length) (hcl : closed = true → ps.length = 2) (hw' : ∀ i, i + 1 < (roundOf ps closed).length → GoodWay (wayAt (roundOf ps closed) i)) (σ : Sg) :
    Fn w (.ref 391) 5 [.tup [.tup (ps.map P2), .bool closed]] σ σ (.lst ((sidesTo (roundOf ps closed) ((roundOf ps closed).length - 1)).1.map sideD)) := by
  have hrl : (roundOf ps closed).length ≤ 200 := by unfold roundOf; split <;> simp <;> omega
  have hr1 : 1 ≤ (roundOf ps closed).length := by unfold roundOf; simp; omega
  k_dflt (refine' Fn.def_ (es := []) ["contour"] [] ?k6 ?k7 ?hb ?h1 ?h2 ?h3 ?h4 ?h5 ?h6 ?h7 rfl (by decide) ?body)
  walk_at "enter"
  case body =>
    intro c hw hr
    subst hw
    refine Ex.unpack2 (σ1 := σ) (d1 := .tup (ps.map P2)) (d2 := .bool closed) (Ev.name rfl) ?_
    have em : (roundOf ps closed).map P2 = ps.map P2 ++ (if closed then ps.take 1 else []).map P2 := by unfold roundOf; simp
    refine Ex.assign (σ1 := σ) (d := .lst ((roundOf ps closed).map P2)) ?_ ?_
    · rw [em]
      refine' Ev.bin (d2 := .lst ((if closed then ps.take 1 else []).map P2)) (Ev.tcall (bt_list _) (EvL.cons (Ev.name rfl) EvL.nil) (bf_listT (by simp; omega))) (Ev.tcall (bt_list _) (EvL.cons (d := .tup ((if closed then ps.take 1 else []).map P2)) ?_ EvL.nil) (bf_listT ?_)) (bin_addLst ?_)
      · refine Ev.ifexp (b := closed) (Tv.val (Ev.name rfl)) (fun h => ?_) fun h => ?_
        · subst h
          rw [if_pos rfl, List.map_take]
          exact Ev.uptoT (a := 1) (Ev.name rfl) Ev.int (by simp [hcl rfl]) (by simp; omega)
        · subst h
          exact Ev.tuple EvL.nil
      · split <;> simp <;> omega
      · split <;> simp <;> omega
    generalize hR : roundOf ps closed = R at *
    refine Ex.own2 (fun l => ?_) rfl (.inl rfl)
    refine Ex.for_ (ds := upTo (R.length - 1)) (fun _ => σ) (fun i => [("found", .own l ((sidesTo R i).1.map sideD)), ("begin", .val (.int (sidesTo R i).2)), ("spots", .val (.lst (R.map P2)))]) none
      (EvIt.range (z := (R.length : Int) - 1) (bt_range _) (Ev.bin (Ev.bcall (bt_len _) (EvL.cons (Ev.name rfl) EvL.nil) (by have := bf_lenL (w := c.w) (ds := R.map P2) (by simp; omega); rw [List.length_map] at this; exact this)) Ev.int bin_sub) (by omega) (by omega))
      (by walk_at "mem") (fun i d hd => ?_) ?_ fun b e => by cases e
    · obtain ⟨hi, rfl⟩ := upTo_is hd
      have gw := hw' i (by omega)
      refine ⟨_, tg_name, fun Zs E => ?_⟩
      refine' Ex.assign (σ1 := E ++ σ) (d := sideD ⟨pt R i, wayAt R i, farOf (wayAt R i), (sidesTo R i).2⟩) (Ev.call (gl_PathSide _) (EvL.cons (d := P2 (pt R i)) ?_ (EvL.cons (d := P2 (pt R (i + 1))) ?_ (EvL.cons (Ev.name rfl) EvL.nil))) (c_PathSide (k := 20) _ gw.sq gw.nn gw.bf (by omega) gw.b1 gw.b2 _) (by show 4 ≤ c.room; omega)) ?_
      · exact Ev.sub (Ev.name rfl) (Ev.name rfl) (sub_lst (by omega) (by omega) (by rw [Int.toNat_natCast]; exact pt_get (by omega)))
      · refine Ev.sub (Ev.name rfl) (Ev.bin (Ev.name rfl) Ev.int bin_add) (sub_lst (by omega) (by omega) ?_)
        rw [show ((i : Int) + 1).toNat = i + 1 by omega]; exact pt_get (by omega)
      refine Ex.ifJ (σ1 := E ++ σ) (b := decide (0 < farOf (wayAt R i))) (σm := E ++ σ) (ρm := [("found", .own l ((sidesTo R (i + 1)).1.map sideD)), ("begin", .val (.int (sidesTo R (i + 1)).2)), ("spots", .val (.lst (R.map P2)))]) (Tv.cmp (Ev.attr (Ev.name rfl) (at_length _)) Ev.int cmp_gt) (fun hb P hP => ?_) (fun hb P hP => ?_) (Ex.nil (ForP.next rfl (by walk_at "mem")))
      · have hp : 0 < farOf (wayAt R i) := of_decide_eq_true hb
        have e : sidesTo R (i + 1) = ((sidesTo R i).1 ++ [⟨pt R i, wayAt R i, farOf (wayAt R i), (sidesTo R i).2⟩], (sidesTo R i).2 + farOf (wayAt R i)) := by rw [sidesTo]; exact if_pos hp
        rw [e] at hP
        refine Ex.append (σ1 := E ++ σ) rfl (Ev.name rfl) ?_ (by have := sidesTo_len R i; simp; omega)
        refine Ex.assign (σ1 := E ++ σ) (Ev.meth0 (Ev.name rfl) (me_end _) (c_end _ _ _) (by show 1 ≤ c.room; omega)) (Ex.nil (hP.weak ?_))
        rw [List.map_append, List.map_cons, List.map_nil]
        walk_at "mem"
      · have hp : ¬ 0 < farOf (wayAt R i) := of_decide_eq_false hb
        have e : sidesTo R (i + 1) = sidesTo R i := by rw [sidesTo]; exact if_neg hp
        rw [e] at hP
        exact Ex.nil (hP.weak (by walk_at "mem"))
    · refine Ex.freeze (x := "found") rfl ?_
      rw [upTo_length]
      exact Ex.ret (Ev.name rfl) RetP.rt
theorem c_path_length (w : World) {ts : List Side} (hz : ts.length ≤ 100) (σ : Sg) : Fn w (.ref 398) 2 [.lst (ts.map sideD)] σ σ (.int ((ts.getLast?.map fun t => t.begin + t.len).getD 0)) := by
  k_dflt (refine' Fn.def_ (es := []) ["sides"] [] ?k6 ?k7 ?hb ?h1 ?h2 ?h3 ?h4 ?h5 ?h6 ?h7 rfl (by decide) ?body)
  walk_at "enter"
  case body =>
    intro c hw hr
    subst hw
    refine Ex.ret (σ1 := σ) (Ev.ifexp (σ1 := σ) (b := !(ts.map sideD).isEmpty) (Tv.cmp (Ev.name rfl) (Ev.list EvL.nil) cmp_neNil) (fun h => ?_) fun h => ?_) RetP.rt
    · have hne : ts ≠ [] := fun e => by rw [e] at h; cases h
      have hl : 0 < ts.length := List.length_pos_iff.mpr hne
      have e : ts.getLast? = some ts[ts.length - 1] := by rw [List.getLast?_eq_getElem?, List.getElem?_eq_getElem (by omega)]
      rw [e]
      refine Ev.meth0 (Ev.sub (Ev.name rfl) (Ev.neg Ev.int) (sub_lstNeg (by decide) (by simp; omega) (by decide) ?_)) (me_end _) (c_end _ _ _) (by omega)
      have : ((-1 : Int) + ((ts.map sideD).length : Int)).toNat = ts.length - 1 := by simp; omega
      rw [this, List.getElem?_map, List.getElem?_eq_getElem (by omega)]
      rfl
    · have e : ts = [] := by cases ts with
        | nil => rfl
        | cons a r => cases h
      subst e
      exact Ev.int
theorem bindDv2 {fd : FuncData} {names : List Str} {K : Frag} {u : Value} (h : ∀ s v0 v1, K.In s.heap → BindsTo s fd ⟨[v0, v1], []⟩ (names.zip [v0, v1, u])) : ∀ vs s, vs.length = 2 → K.In s.heap → ∃ us, BindsTo s fd ⟨vs, []⟩ (names.zip (vs ++ us)) ∧ ∀ Z : Kn, IsL Z [.val u] us := by
  intro vs s hl hK
  obtain ⟨v0, v1, rfl⟩ := len2 hl
  exact ⟨[u], h s v0 v1 hK, fun _ => .cons (.val _) .nil⟩
noncomputable abbrev noIns : D := .val (.bytes #[] 446)
theorem c_OutlineX (w : World) (d : D) (σ : Sg) : FnO w 243 2 [d] σ [("contours", d), ("instructions", noIns)] ∧ Fn w (.ref 243) 2 [d] σ σ (.obj 243 [("contours", d), ("instructions", noIns)]) := by
  refine ⟨?_, ?_⟩
  · k_dflt (refine' Fn.clsX (es := [noIns]) "self" ["contours", "instructions"] ?m1 ?m2 ?m3 ?k6 ?k7 ?hb ?h1 ?h2 ?h3 ?h5 ?h6 ?h7 (by decide) ?body)
    (case m1 => k_is)
    (case m2 => k_is)
    (case m3 => k_is)
    (case k6 => k_is)
    (case k7 => k_is)
    (case hb => exact bindDv2 fun _ _ _ hK => BindsTo.of_defaults rfl (hK _ _ (by k_is)) rfl rfl rfl)
    (case h1 => decide)
    (case h2 => decide)
    (case h3 => exact fun _ => rfl)
    (case h5 => rfl)
    (case h6 => rfl)
    (case h7 => rfl)
    case body =>
      intro c x₀ dx hw hr
      subst hw
      refine Ex.setSelf (σ1 := σ) rfl (Ev.name rfl) ⟨by k_is, by k_is, by k_is, by k_is⟩ rfl ?_ (Nat.le_of_ble_eq_true rfl)
      refine Ex.setSelf (σ1 := σ) rfl (Ev.name rfl) ⟨by k_is, by k_is, by k_is, by k_is⟩ rfl ?_ (Nat.le_of_ble_eq_true rfl)
      exact Ex.nil (NextP.rtO rfl)
  · k_dflt (refine' Fn.cls_ (es := [noIns]) "self" ["contours", "instructions"] ?m1 ?m2 ?m3 ?k6 ?k7 ?hb ?h1 ?h2 ?h3 ?h5 ?h6 ?h7 (by decide) ?body)
    (case m1 => k_is)
    (case m2 => k_is)
    (case m3 => k_is)
    (case k6 => k_is)
    (case k7 => k_is)
    (case hb => exact bindDv2 fun _ _ _ hK => BindsTo.of_defaults rfl (hK _ _ (by k_is)) rfl rfl rfl)
    (case h1 => decide)
    (case h2 => decide)
    (case h3 => exact fun _ => rfl)
    (case h5 => rfl)
    (case h6 => rfl)
    (case h7 => rfl)
    case body =>
      intro c x₀ dx hw hr
      subst hw
      refine Ex.setSelf (σ1 := σ) rfl (Ev.name rfl) ⟨by k_is, by k_is, by k_is, by k_is⟩ rfl ?_ (Nat.le_of_ble_eq_true rfl)
      refine Ex.setSelf (σ1 := σ) rfl (Ev.name rfl) ⟨by k_is, by k_is, by k_is, by k_is⟩ rfl ?_ (Nat.le_of_ble_eq_true rfl)
      exact Ex.nil (NextP.rtO rfl)
theorem at_contours (w : World) : At w 243 "contours" := ⟨by k_is, by k_is, _, by k_is, by k_is⟩
/-- a point on the curve -/
noncomputable abbrev onD (p : Int × Int) : D := .tup [.int p.1, .int p.2, .bool true]
noncomputable abbrev spD (p : Int × Int) : D := F2 ((p.1, 1), (p.2, 1))
theorem c_begin_of (w : World) {p : Int × Int} {ps : List (Int × Int)} (hz : ps.length ≤ 100) (σ : Sg) : Fn w (.ref 268) 4 [.lst ((p :: ps).map onD)] σ σ (.tup [spD p, .lst ((ps ++ [p]).map onD)]) := by
  k_dflt (refine' Fn.def_ (es := []) ["contour"] [] ?k6 ?k7 ?hb ?h1 ?h2 ?h3 ?h4 ?h5 ?h6 ?h7 rfl (by decide) ?body)
  walk_at "enter"
  case body =>
    intro c hw hr
    subst hw
    refine Ex.if_ (σ1 := σ) (b := true) (Tv.val (Ev.sub (d1 := onD p) (Ev.sub (Ev.name rfl) Ev.int (sub_lst (by decide) (by decide) rfl)) Ev.int (sub_tup rfl rfl))) (fun _ => ?_) (fun h => by cases h)
    have e : .lst ((ps ++ [p]).map onD) = D.lst (((p :: ps).map onD).drop 1 ++ ((p :: ps).map onD).take 1) := by simp
    rw [e]
    refine' Ex.ret (σ1 := σ) (Ev.tuple (EvL.cons ?_ (EvL.cons ?_ EvL.nil))) RetP.rt.then_
    · exact Ev.call (gl_spot _) (EvL.cons (Ev.sub (Ev.name rfl) Ev.int (sub_lst (by decide) (by decide) rfl)) EvL.nil) (c_spot _ (p := p) (r := .bool true) _) (by omega)
    · exact Ev.bin (Ev.fromL (a := 1) (Ev.name rfl) Ev.int (by simp; omega)) (Ev.uptoL (a := 1) (Ev.name rfl) Ev.int (by simp; omega)) (bin_addLst (by simp; omega))
noncomputable abbrev lineD (p : Int × Int) : D := .tup [.str "line", spD p]
/-- the segments of a contour whose points all lie on the curve -/
noncomputable def segsOf : List (Int × Int) → List D
  | [] => []
  | p :: ps => .tup [.str "move", spD p] :: (ps ++ [p]).map lineD ++ [.tup [.str "close"]]
theorem c_contour_segments (w : World) {p : Int × Int} {ps : List (Int × Int)} (hz : ps.length ≤ 100) (σ : Sg) : Fn w (.ref 275) 5 [.lst ((p :: ps).map onD)] σ σ (.lst (segsOf (p :: ps))) := by
  k_dflt (refine' Fn.def_ (es := []) ["contour"] [] ?k6 ?k7 ?hb ?h1 ?h2 ?h3 ?h4 ?h5 ?h6 ?h7 rfl (by decide) ?body)
  walk_at "enter"
  case body =>
    intro c hw hr
    subst hw
    refine Ex.unpack2 (σ1 := σ) (d1 := spD p) (d2 := .lst ((ps ++ [p]).map onD)) (Ev.call (gl_begin_of _) (EvL.cons (Ev.name rfl) EvL.nil) (c_begin_of _ hz _) (by omega)) ?_
    refine Ex.assignOwn (σ1 := σ) (ds := [.tup [.str "move", spD p]]) (EvL.cons (Ev.tuple (EvL.cons Ev.str (EvL.cons (Ev.name rfl) EvL.nil))) EvL.nil) fun l => ?_
    refine Ex.assign (σ1 := σ) (d := .none) Ev.none ?_
    refine Ex.for_ (ds := (ps ++ [p]).map onD) (fun _ => σ) (fun i => [("found", .own l (.tup [.str "move", spD p] :: ((ps ++ [p]).take i).map lineD)), ("control", .val .none), ("start", .val (spD p))]) none (EvIt.lst (Ev.name rfl))
      (by walk_at "mem") (fun i d hd => ?_) ?_ fun b e => by cases e
    · obtain ⟨t, ht, rfl⟩ := map_get hd
      obtain ⟨hi, hti⟩ := List.getElem?_eq_some_iff.mp ht
      refine ⟨_, tg_name, fun Zs E => ?_⟩
      refine Ex.if_ (σ1 := E ++ σ) (b := true) (Tv.val (Ev.sub (Ev.name rfl) Ev.int (sub_tup rfl rfl))) (fun _ => ?_) (fun h => by cases h)
      refine Ex.append (σ1 := E ++ σ) (d := lineD t) rfl (Ev.ifexp (b := true) (Tv.cmp (Ev.name rfl) Ev.none (cmp_is rfl)) (fun _ => Ev.tuple (EvL.cons Ev.str (EvL.cons (Ev.call (gl_spot _) (EvL.cons (Ev.name rfl) EvL.nil) (c_spot _ (p := t) (r := .bool true) _) (by show 3 ≤ c.room; omega)) EvL.nil))) (fun h => by cases h)) ?_ (by simp; omega)
      refine Ex.assign (σ1 := E ++ σ) (d := .none) Ev.none (Ex.nil (NextP.then_ (Ex.nil (ForP.next rfl ?_))))
      have e : ((ps ++ [p]).take (i + 1)).map lineD = ((ps ++ [p]).take i).map lineD ++ [lineD t] := by
        rw [List.take_add_one, ht]; simp
      rw [e]
      walk_at "mem"
    · refine Ex.if_ (σ1 := σ) (b := !true) (Tv.cmp (Ev.name rfl) Ev.none (cmp_isNot rfl)) (fun h => by cases h) fun _ => Ex.nil (NextP.then_ ?_)
      have e : ((ps ++ [p]).take ((ps ++ [p]).map onD).length).map lineD = (ps ++ [p]).map lineD := by rw [List.length_map, List.take_length]
      refine Ex.append (σ1 := σ) (d := .tup [.str "close"]) rfl (Ev.tuple (EvL.cons Ev.str EvL.nil)) ?_ (by simp; omega)
      refine Ex.freeze (x := "found") rfl ?_
      rw [e]
      exact Ex.ret (Ev.name rfl) RetP.rt
theorem c_segments_of (w : World) {css : List (List (Int × Int))} {fs : List (Str × D)} (hc : fs.lookup ("contours" : Str) = some (D.lst (css.map fun ps => D.lst (ps.map onD)))) (hz : css.length ≤ 3) (h2 : ∀ ps ∈ css, 2 ≤ ps.length ∧ ps.length ≤ 90) (σ : Sg) : Fn w (.ref 282) 6 [.obj 243 fs] σ σ (.lst (css.flatMap segsOf)) := by
  have slen : ∀ ps : List (Int × Int), (segsOf ps).length ≤ ps.length + 2 := fun ps => by cases ps <;> simp [segsOf]
  have flen : ∀ i, i ≤ 3 → ((css.take i).flatMap segsOf).length ≤ 92 * i := fun i hi => by
    induction i with
    | zero => simp
    | succ i ih =>
      rw [List.take_add_one, List.flatMap_append, List.length_append]
      have := ih (by omega)
      cases q : css[i]? with
      | none => show ((css.take i).flatMap segsOf).length + 0 ≤ _; omega
      | some ps =>
        have h3 := slen ps
        have h4 := (h2 ps (List.mem_of_getElem? q)).2
        show ((css.take i).flatMap segsOf).length + (segsOf ps ++ []).length ≤ _
        rw [List.append_nil]; omega
  k_dflt (refine' Fn.def_ (es := []) ["outline"] [] ?k6 ?k7 ?hb ?h1 ?h2 ?h3 ?h4 ?h5 ?h6 ?h7 rfl (by decide) ?body)
  walk_at "enter"
  case body =>
    intro c hw hr
    subst hw
    refine Ex.assign (σ1 := σ) (d := .lst []) (Ev.list EvL.nil) ?_
    refine Ex.for_ (ds := css.map fun ps => D.lst (ps.map onD)) (fun _ => σ) (fun i => [("found", .val (.lst ((css.take i).flatMap segsOf)))]) none (EvIt.lst (Ev.attr (Ev.name rfl) (at_contours _) hc))
      (by walk_at "mem") (fun i d hd => ?_) ?_ fun b e => by cases e
    · obtain ⟨ps, ht, rfl⟩ := map_get hd
      obtain ⟨hi, hti⟩ := List.getElem?_eq_some_iff.mp ht
      have hps := h2 ps (List.mem_of_getElem? ht)
      obtain ⟨q, qs, rfl⟩ : ∃ q qs, ps = q :: qs := by cases ps with
        | nil => exact absurd hps.1 (by simp)
        | cons q qs => exact ⟨q, qs, rfl⟩
      refine ⟨_, tg_name, fun Zs E => ?_⟩
      have hlen : ((((q :: qs).map onD).length : Nat) : Int) > 1 := by have := hps.1; simp at this ⊢; omega
      refine Ex.if_ (σ1 := E ++ σ) (b := true) (Tv.cmp (Ev.bcall (bt_len _) (EvL.cons (Ev.name rfl) EvL.nil) (bf_lenL (by have := hps.2; simp at this ⊢; omega))) Ev.int (by have := cmp_gt (w := c.w) (a := (((q :: qs).map onD).length : Nat)) (b := 1); rw [decide_eq_true hlen] at this; exact this)) (fun _ => ?_) (fun h => by cases h)
      have e : (css.take (i + 1)).flatMap segsOf = (css.take i).flatMap segsOf ++ segsOf (q :: qs) := by
        rw [List.take_add_one, ht, List.flatMap_append]; simp
      refine' Ex.assign (σ1 := E ++ σ) (d := .lst ((css.take (i + 1)).flatMap segsOf)) ?_ (Ex.nil (NextP.then_ (Ex.nil (ForP.next rfl (by walk_at "mem")))))
      rw [e]
      refine' Ev.bin (Ev.name rfl) (Ev.call (gl_contour_segments _) (EvL.cons (Ev.tcall (bt_list _) (EvL.cons (Ev.name rfl) EvL.nil) (bf_listL (by have := hps.2; simp at this ⊢; omega))) EvL.nil) (c_contour_segments _ (by have := hps.2; simp at this ⊢; omega) _) (by show 5 ≤ c.room; omega)) (bin_addLst ?_)
      have := flen i (by omega)
      have := slen (q :: qs)
      have := hps.2
      omega
    · rw [List.length_map, List.take_length]
      exact Ex.ret (Ev.name rfl) RetP.rt
theorem Fn.defE {w : World} {f : Addr} {need : Nat} {ds es : List D} {σ σ' : Sg} {d : D} {name qual : Str} {params : Arguments} {body : List Stmt} {scope : Scope} {dV kV doc pm cdv ct oc : Value} {an od : Option Addr} {osl : Array (Option Value)} (names un : List Str)
    (ho : (hd.heap_1 w.params).lookup f = some ⟨oc, od, .func (fnOf name qual params body scope dV kV doc pm an cdv ct), osl⟩) (hcd : codeIn (hd.heap_1 w.params) cdv qual = true)
    (hbind : ∀ vs s, vs.length = ds.length → (hd.heap_1 w.params).In s.heap → ∃ us, BindsTo s (fnOf name qual params body scope dV kV doc pm an cdv ct) ⟨vs, []⟩ (names.zip (vs ++ us)) ∧ ∀ Z : Kn, IsL Z es us)
    (hn : names.Nodup) (hkind : ∀ x ∈ names, scope.names.lookup x = some .local ∨ (scope.names.lookup x = some .cell ∧ ((cellsFrom 0 scope.names []).lookup x).isSome = true))
    (hun : ∀ x ∈ un, x ∉ names ∧ scope.names.lookup x = some .cell ∧ ((cellsFrom 0 scope.names []).lookup x).isSome = true)
    (hnd : ((cellsFrom 0 scope.names []).map (·.1)).Nodup) 
    (hco : scope.isCoroutine = false) (hgen : scope.isGenerator = false) (hk : scope.kind = .function)
    (hσn : σ'.map (·.1) = σ.map (·.1)) (hneed : 1 ≤ need)
    (hb : ∀ c : Cx, c.w = w → c.room + 1 = need → c.ccd = cdv → c.cn = qual → Ex c scope σ (rho0 names (ds ++ es) un) body (Rt c scope σ' d)) :
    Fn w (.ref f) need ds σ σ' d := by
  refine FnG.fn (Fn.defX names un ho hcd hbind hn hkind hun hnd hco hgen hk (fun σ'' d' e p hp => ?_) hneed fun c hw hr h1 h2 s F => wpAny_mono (hb c hw hr h1 h2 s F) (fun fl s' h' => ⟨_, _, ⟨rfl, rfl⟩, h'⟩) fun _ _ e => e)
  obtain ⟨rfl, _⟩ := e
  obtain ⟨q, hq, e⟩ := List.mem_map.mp (hσn ▸ List.mem_map_of_mem hp : p.1 ∈ σ''.map (·.1))
  exact ⟨q, hq, e⟩
noncomputable abbrev lamQ : Str := "_law_font.<locals>.<lambda>"
noncomputable abbrev lamPos : List (Int × Int) := [(284, 17), (285, 19), (286, 16), (287, 19)]
noncomputable abbrev glyphD (g : Int) : D := .obj 243 [("contours", .lst [.lst ([(g, 0), (9, g), (0, 5)].map onD)]), ("instructions", noIns)]
structure LamOk (k1 k2 k3 k4 : Lam) : Prop where
  glyph : ∀ (w : World) (n : Int) (σ : Sg), FnV w (.fn k1 []) 1 [.int n] σ σ (.int (n - 96))
  advance : ∀ (w : World) (adv : List Int) (g : Int) (σ : Sg), 1 ≤ g → g ≤ adv.length → g < 1000 → FnV w (.fn k2 [("advances", .lst (adv.map .int))]) 1 [.int g] σ σ (.int (adv.getD (g - 1).toNat 0))
  kern : ∀ (w : World) (kern l r : Int) (σ : Sg), FnV w (.fn k3 [("kern", .int kern)]) 1 [.int l, .int r] σ σ (.int (if l = 1 ∧ r = 2 then kern else 0))
  outline : ∀ (w : World) (g : Int) (σ : Sg), FnV w (.fn k4 []) 3 [.int g] σ σ (glyphD g)
noncomputable abbrev fontD (k1 k2 k3 k4 : Lam) (adv : List Int) (kern : Int) : D :=
  .obj 243 [("contours", .lst []), ("instructions", noIns), ("glyph", .fn k1 []), ("advance", .fn k2 [("advances", .lst (adv.map .int))]), ("kern", .fn k3 [("kern", .int kern)]), ("outline", .fn k4 [])]
theorem kern_eq {l r : Int} : PyData.eqv (D.tup [.int l, .int r]).pd (D.tup [.int 1, .int 2]).pd = decide (l = 1 ∧ r = 2) := by
  simp only [D.pd, pds, PyData.eqv, PyData.eqvAll, Bool.and_true]
  by_cases h : l = 1 <;> by_cases h' : r = 2 <;> simp [h, h']
theorem sigma_fst {σ1 σ2 : Sg} {a : Addr} {P P' : SO} : (σ1 ++ (a, P') :: σ2).map (·.1) = (σ1 ++ (a, P) :: σ2).map (·.1) := by simp
theorem one_free {x : Str} {env : Env} {ca : Addr} {names : List (Str × NameKind)} {scope : Scope} (hn : scope.names = names ++ [(x, .free)]) (h0 : ∀ y ∈ names, y.2 ≠ .free) (h : env.cells.lookup x = some ca) : closureFor scope env = pure [(x, ca)] := by
  unfold closureFor
  rw [hn]
  have e : ∀ (l : List (Str × NameKind)), (∀ y ∈ l, y.2 ≠ .free) → ∀ cs : List (Str × Addr), (forIn (l ++ [(x, NameKind.free)]) cs fun (p : Str × NameKind) (r : List (Str × Addr)) => (if p.2 == .free then (do let a ← cellOf env p.1; pure (ForInStep.yield ((p.1, a) :: r))) else pure (ForInStep.yield r) : Sem (ForInStep (List (Str × Addr))))) = pure ((x, ca) :: cs) := by
    intro l
    induction l with
    | nil =>
      intro _ cs
      have : cellOf env x = pure ca := by unfold cellOf; rw [h]
      rw [List.nil_append, List.forIn_cons]
      simp only [beq_self_eq_true, if_true]
      rw [this]; rfl
    | cons y r ih =>
      intro hl cs
      rw [List.cons_append, List.forIn_cons]
      have hy : (y.2 == NameKind.free) = false := by simpa using hl y (.head _)
      simp only [hy, Bool.false_eq_true, if_false]
      exact ih (fun z hz => hl z (.tail _ hz)) cs
  rw [← bind_pure (pure [(x, ca)] : Sem _), ← e names h0 []]
theorem c_law_fontX : ∃ k1 k2 k3 k4 : Lam, (∀ (w : World) (adv : List Int) (kern : Int) (es : List (Int × Int)) (σ1 σ2 : Sg), (es = [] ∨ es = lamPos) →
    Fn w (.ref 483) 3 [.lst (adv.map .int), .int kern] (σ1 ++ (478, TabP lamQ es) :: σ2) (σ1 ++ (478, TabP lamQ lamPos) :: σ2) (fontD k1 k2 k3 k4 adv kern)) ∧ LamOk k1 k2 k3 k4 := by
  apply Exists.intro
  apply Exists.intro
  apply Exists.intro
  apply Exists.intro
  apply And.intro
  · intro w adv kern es σ1 σ2 hes
    k_dflt (refine' Fn.defE (es := []) ["advances", "kern"] [] ?k6 ?k7 ?hb ?h1 ?h2 ?h3 ?h4 ?h5 ?h6 ?h7 ?hs ?hn ?body)
    walk_at "enter"
    case hs => exact sigma_fst
    case hn => decide
    case body =>
      intro c hw hr hccd hcn
      subst hw
      have hq : c.cn ++ ".<locals>." ++ "<lambda>" = lamQ := by rw [hcn]; rfl
      refine Ex.freezeCell (x := "advances") rfl ?_
      refine Ex.freezeCell (x := "kern") rfl ?_
      refine Ex.newObj (σ1 := σ1 ++ (478, TabP lamQ es) :: σ2) (gl_Outline _) (EvL.cons (Ev.list EvL.nil) EvL.nil) ((c_OutlineX _ _ _).1) (by omega) fun x₀ dx => ?_
      have at1 : ∃ e1 e2 e3, ((∀ e ∈ es, ¬ (e.1 = ((284 : Nat) : Int) ∧ e.2 = ((17 : Nat) : Int))) ∧ e1 = es ++ [(((284 : Nat) : Int), ((17 : Nat) : Int))] ∨ ((((284 : Nat) : Int), ((17 : Nat) : Int)) ∈ es ∧ e1 = es)) ∧
          ((∀ e ∈ e1, ¬ (e.1 = ((285 : Nat) : Int) ∧ e.2 = ((19 : Nat) : Int))) ∧ e2 = e1 ++ [(((285 : Nat) : Int), ((19 : Nat) : Int))] ∨ ((((285 : Nat) : Int), ((19 : Nat) : Int)) ∈ e1 ∧ e2 = e1)) ∧
          ((∀ e ∈ e2, ¬ (e.1 = ((286 : Nat) : Int) ∧ e.2 = ((16 : Nat) : Int))) ∧ e3 = e2 ++ [(((286 : Nat) : Int), ((16 : Nat) : Int))] ∨ ((((286 : Nat) : Int), ((16 : Nat) : Int)) ∈ e2 ∧ e3 = e2)) ∧
          ((∀ e ∈ e3, ¬ (e.1 = ((287 : Nat) : Int) ∧ e.2 = ((19 : Nat) : Int))) ∧ lamPos = e3 ++ [(((287 : Nat) : Int), ((19 : Nat) : Int))] ∨ ((((287 : Nat) : Int), ((19 : Nat) : Int)) ∈ e3 ∧ lamPos = e3)) := by
        rcases hes with rfl | rfl
        · exact ⟨[(284, 17)], [(284, 17), (285, 19)], [(284, 17), (285, 19), (286, 16)], .inl ⟨by decide, rfl⟩, .inl ⟨by decide, rfl⟩, .inl ⟨by decide, rfl⟩, .inl ⟨by decide, rfl⟩⟩
        · exact ⟨lamPos, lamPos, lamPos, .inr ⟨by decide, rfl⟩, .inr ⟨by decide, rfl⟩, .inr ⟨by decide, rfl⟩, .inr ⟨by decide, rfl⟩⟩
      obtain ⟨e1, e2, e3, p1, p2, p3, p4⟩ := at1
      refine Ex.setSelf (σ1 := σ1 ++ (478, TabP lamQ e1) :: σ2) rfl (ev_lam0 hccd hq p1) ⟨by k_is, by k_is, by k_is, by k_is⟩ rfl ?_ (Nat.le_of_ble_eq_true rfl)
      refine Ex.setSelf (σ1 := σ1 ++ (478, TabP lamQ e2) :: σ2) rfl (ev_lam1 (x := "advances") rfl hccd hq p2 fun env ca h => one_free (names := [("glyph", .local)]) rfl (by decide) h) ⟨by k_is, by k_is, by k_is, by k_is⟩ rfl ?_ (Nat.le_of_ble_eq_true rfl)
      refine Ex.setSelf (σ1 := σ1 ++ (478, TabP lamQ e3) :: σ2) rfl (ev_lam1 (x := "kern") rfl hccd hq p3 fun env ca h => one_free (names := [("left", .local), ("right", .local)]) rfl (by decide) h) ⟨by k_is, by k_is, by k_is, by k_is⟩ rfl ?_ (Nat.le_of_ble_eq_true rfl)
      refine Ex.setSelf (σ1 := σ1 ++ (478, TabP lamQ lamPos) :: σ2) rfl (ev_lam0 hccd hq p4) ⟨by k_is, by k_is, by k_is, by k_is⟩ rfl ?_ (Nat.le_of_ble_eq_true rfl)
      refine Ex.freezeObj (x := "font") rfl ?_
      exact Ex.ret (Ev.name rfl) RetP.rt
  · refine ⟨fun w n σ => ?_, fun w adv g σ h1 h2 h3 => ?_, fun w kern l r σ => ?_, fun w g σ => ?_⟩
    · refine Fn.lam_ ["code"] (fun clos pm c ctv vs hl => by obtain ⟨v, rfl⟩ := len1 hl; rfl) (by decide) (by decide) (by decide) (by decide) rfl rfl rfl (fun p hp => ⟨p, hp, rfl⟩) (by decide) fun c hw hr => ?_
      exact Ev.bin (Ev.name rfl) Ev.int bin_sub
    · refine Fn.lam_ ["glyph"] (fun clos pm c ctv vs hl => by obtain ⟨v, rfl⟩ := len1 hl; rfl) (by decide) (by decide) (List.forall_mem_cons.mpr ⟨rfl, List.forall_mem_nil _⟩) (by decide) rfl rfl rfl (fun p hp => ⟨p, hp, rfl⟩) (by decide) fun c hw hr => ?_
      exact Ev.sub (Ev.nameF rfl) (Ev.bin (Ev.name rfl) Ev.int bin_sub) (sub_lst (by omega) (by omega) (getD_some (by omega)))
    · refine Fn.lam_ ["left", "right"] (fun clos pm c ctv vs hl => by obtain ⟨v, u, rfl⟩ := len2 hl; rfl) (by decide) (by decide) (List.forall_mem_cons.mpr ⟨rfl, List.forall_mem_nil _⟩) (by decide) rfl rfl rfl (fun p hp => ⟨p, hp, rfl⟩) (by decide) fun c hw hr => ?_
      refine Ev.ifexp (σ1 := σ) (b := decide (l = 1 ∧ r = 2)) (Tv.cmp (Ev.tuple (EvL.cons (Ev.name rfl) (EvL.cons (Ev.name rfl) EvL.nil))) (Ev.tuple (EvL.cons Ev.int (EvL.cons Ev.int EvL.nil))) (cmp_eqD rfl rfl rfl rfl kern_eq)) (fun h => ?_) fun h => ?_
      · rw [if_pos (of_decide_eq_true h)]; exact Ev.nameF rfl
      · rw [if_neg (of_decide_eq_false h)]; exact Ev.int
    · refine Fn.lam_ ["glyph"] (fun clos pm c ctv vs hl => by obtain ⟨v, rfl⟩ := len1 hl; rfl) (by decide) (by decide) (by decide) (by decide) rfl rfl rfl (fun p hp => ⟨p, hp, rfl⟩) (by decide) fun c hw hr => ?_
      subst hw
      exact Ev.call (gl_Outline _) (EvL.cons (Ev.list (EvL.cons (Ev.list (EvL.cons (Ev.tuple (EvL.cons (Ev.name rfl) (EvL.cons Ev.int (EvL.cons Ev.bool EvL.nil)))) (EvL.cons (Ev.tuple (EvL.cons Ev.int (EvL.cons (Ev.name rfl) (EvL.cons Ev.bool EvL.nil))))
        (EvL.cons (Ev.tuple (EvL.cons Ev.int (EvL.cons Ev.int (EvL.cons Ev.bool EvL.nil)))) EvL.nil)))) EvL.nil)) EvL.nil) ((c_OutlineX _ _ _).2) (by omega)
theorem Ex.assignK {c : Cx} {S : Scope} {σ σ1 : Sg} {ρ : Rho} {x : Str} {e : Expr} {p' pos : Pos} {d : D} {rest : List Stmt} {P : Flow → Shared → Prop} {b : B} (h1 : Ev c S .none σ ρ [] e σ1 d) (h2 : Ex c S σ1 ((x, .val d) :: ρ) rest P)
    (hb : ρ.lookup x = some b) (hk : S.names.lookup x = some .cell := by rfl) (hnf : ∀ d, b ≠ .froz d := by intro _ h; cases h) (hs : swapsWith e (some (.Name x p')) pos.line (envAt c S .none) = pure false := by rfl) : Ex c S σ ρ (.Assign [.Name x p'] e pos :: rest) P :=
  Ex.step fun s F => wpAny_Assign_Name (h1 [] s _ F fun v s1 F1 => store_cell F1.toH hk ⟨b, hb, hnf⟩ fun s2 F2 => h2 s2 F2.toFs) hs
theorem ov_glyph (w : World) : Ov w 243 "glyph" := ⟨⟨by k_is, by k_is, _, by k_is, by k_is⟩, by k_is⟩
theorem ov_advance (w : World) : Ov w 243 "advance" := ⟨⟨by k_is, by k_is, _, by k_is, by k_is⟩, by k_is⟩
theorem ov_kern (w : World) : Ov w 243 "kern" := ⟨⟨by k_is, by k_is, _, by k_is, by k_is⟩, by k_is⟩
theorem ov_outline (w : World) : Ov w 243 "outline" := ⟨⟨by k_is, by k_is, _, by k_is, by k_is⟩, by k_is⟩
/-- a text of a, b, c -/
structure Abc (ks : List Nat) : Prop where
  abc : ∀ k ∈ ks, k = 97 ∨ k = 98 ∨ k = 99
  len : ks.length ≤ 3
  pos : 1 ≤ ks.length
theorem Abc.ascii {ks : List Nat} (h : Abc ks) : ks.all (· < 128) = true := by
  rw [List.all_eq_true]
  intro k hk
  rcases h.abc k hk with rfl | rfl | rfl <;> rfl
noncomputable abbrev gls (ks : List Nat) : List Int := ks.map fun (k : Nat) => (k : Int) - 96
theorem take_map {α β : Type} {l : List α} {i : Nat} {x : α} (f : α → β) (h : l[i]? = some x) : (l.take (i + 1)).map f = (l.take i).map f ++ [f x] := by
  rw [List.take_add_one, h]; simp
theorem c_glyphs_of (w : World) {k1 k2 k3 k4 : Lam} (hk : LamOk k1 k2 k3 k4) {ks : List Nat} (ht : Abc ks) {adv : List Int} {kern : Int} (σ : Sg) : Fn w (.ref 330) 2 [fontD k1 k2 k3 k4 adv kern, .str (txt ks)] σ σ (.lst ((gls ks).map .int)) := by
  have e : (gls ks).map D.int = (ks.take (signs ks).length).map fun (k : Nat) => D.int ((k : Int) - 96) := by
    rw [show (signs ks).length = ks.length by simp, List.take_length, List.map_map]; rfl
  rw [e]
  k_dflt (refine' Fn.def_ (es := []) ["font", "text"] [] ?k6 ?k7 ?hb ?h1 ?h2 ?h3 ?h4 ?h5 ?h6 ?h7 rfl (by decide) ?body)
  walk_at "enter"
  case body =>
    intro c hw hr
    subst hw
    refine Ex.ret (σ1 := σ) (Ev.comp (fun _ => σ) (fun i => (ks.take i).map fun (k : Nat) => D.int ((k : Int) - 96)) (EvIt.str ht.ascii (Ev.name rfl)) rfl (fun i d hd => ?_) (by have := ht.len; simp; omega) (by walk_at "clos")) RetP.rt
    obtain ⟨k, hk', rfl⟩ := map_get hd
    refine ⟨_, tgk_name, fun Zs E cl C hcl => ⟨true, E ++ σ, Ts.nil, fun _ => ⟨.int ((k : Int) - 96), ?_, take_map _ hk'⟩, fun h => by cases h⟩⟩
    exact Ev.vcall (Ev.nameK rfl (hcl ("font", .free) (by decide) rfl)) (ov_glyph _) rfl (EvL.cons (Ev.bcall (bt_ord _) (EvL.cons (Ev.nameL rfl) EvL.nil) bf_ord) EvL.nil) (hk.glyph _ _ _) (by show 1 ≤ c.room; omega)
noncomputable abbrev ga (l : List Int) (i : Nat) : Int := l.getD i 0
noncomputable abbrev advs (adv : List Int) (gs : List Int) : List Int := gs.map fun g => adv.getD (g - 1).toNat 0
noncomputable abbrev krs (kern : Int) (gs : List Int) (n : Nat) : List Int := (List.range n).map fun i => if ga gs i = 1 ∧ ga gs (i + 1) = 2 then kern else 0
noncomputable abbrev lets (gs as bs : List Int) (n : Nat) : List Let := (List.range n).map fun i => ⟨ga gs i, ga as i, ga bs i⟩
/-- the letters of a text, and its length -/
noncomputable def lettersOf (ks : List Nat) (adv : List Int) (kern : Int) : List Let × Int :=
  (lets (gls ks) (advs adv (gls ks)) (begAt (advs adv (gls ks)) (krs kern (gls ks) (ks.length - 1)) ks.length).1 ks.length, (advs adv (gls ks)).sum + (krs kern (gls ks) (ks.length - 1)).sum)
theorem range_snoc {α : Type} (f : Nat → α) (i : Nat) : (List.range (i + 1)).map f = (List.range i).map f ++ [f i] := by
  rw [List.range_succ]; simp
theorem c_letters_of (w : World) {k1 k2 k3 k4 : Lam} (hk : LamOk k1 k2 k3 k4) {ks : List Nat} (ht : Abc ks) {adv : List Int} (ha : adv.length = 3) {kern : Int} (σ : Sg) :
    Fn w (.ref 335) 4 [fontD k1 k2 k3 k4 adv kern, .str (txt ks)] σ σ (.tup [.lst ((lettersOf ks adv kern).1.map letD), .int (lettersOf ks adv kern).2]) := by
  have hn := ht.len
  have hp := ht.pos
  have gl : (gls ks).length = ks.length := by simp
  have gr : ∀ i, i < ks.length → 1 ≤ ga (gls ks) i ∧ ga (gls ks) i ≤ 3 := fun i hi => by
    have e : ga (gls ks) i = ((ks[i] : Nat) : Int) - 96 := by simp [ga, List.getD, List.getElem?_map, List.getElem?_eq_getElem hi]
    rw [e]
    rcases ht.abc _ (List.getElem_mem hi) with h | h | h <;> omega
  have gget : ∀ i, i < ks.length → ((gls ks).map D.int)[i]? = some (.int (ga (gls ks) i)) := fun i hi => getD_some (by rw [gl]; exact hi)
  unfold lettersOf
  generalize hgs : gls ks = gs at *
  generalize hn' : ks.length = n at *
  k_dflt (refine' Fn.def_ (es := []) ["font", "text"] ["glyphs", "advances", "begins"] ?k6 ?k7 ?hb ?h1 ?h2 ?h3 ?h4 ?h5 ?h6 ?h7 rfl (by decide) ?body)
  walk_at "enter"
  case body =>
    intro c hw hr
    subst hw
    refine Ex.assignC (σ1 := σ) (d := .lst (gs.map .int)) (Ev.call (gl_glyphs_of _) (EvL.cons (Ev.nameC rfl) (EvL.cons (Ev.name rfl) EvL.nil)) (by rw [← hgs]; exact c_glyphs_of _ hk ht _) (by omega)) ?_ rfl
    have ea : (advs adv gs).map D.int = (gs.take (gs.map D.int).length).map fun (g : Int) => D.int (adv.getD (g - 1).toNat 0) := by
      rw [List.length_map, List.take_length, List.map_map]; rfl
    refine Ex.assignK (Ev.comp (ds := gs.map .int) (fun _ => σ) (fun i => (gs.take i).map fun (g : Int) => D.int (adv.getD (g - 1).toNat 0)) (EvIt.lst (Ev.nameC rfl)) rfl (fun i d hd => ?_) (by simp; omega) (by walk_at "clos")) ?_ rfl
    · obtain ⟨g, hg, rfl⟩ := map_get hd
      have hi : i < n := by rw [← gl]; exact (List.getElem?_eq_some_iff.mp hg).1
      have hg' : g = ga gs i := by simp [ga, List.getD, hg]
      have hr' := gr i hi
      refine ⟨_, tgk_name, fun Zs E cl C hcl => ⟨true, E ++ σ, Ts.nil, fun _ => ⟨.int (adv.getD (g - 1).toNat 0), ?_, take_map _ hg⟩, fun h => by cases h⟩⟩
      exact Ev.vcall (Ev.nameK rfl (hcl ("font", .free) (by decide) rfl)) (ov_advance _) rfl (EvL.cons (Ev.nameL rfl) EvL.nil) (hk.advance _ _ _ _ (by rw [hg']; exact hr'.1) (by rw [hg', ha]; omega) (by rw [hg']; omega)) (by show 1 ≤ c.room; omega)
    rw [← ea]
    have ek : (krs kern gs (n - 1)).map D.int = (List.range (upTo (n - 1)).length).map fun i => D.int (if ga gs i = 1 ∧ ga gs (i + 1) = 2 then kern else 0) := by
      rw [upTo_length, List.map_map]; rfl
    refine Ex.comp (ds := upTo (n - 1)) (fun _ => σ) (fun i => (List.range i).map fun i => D.int (if ga gs i = 1 ∧ ga gs (i + 1) = 2 then kern else 0))
      (EvIt.range (z := (n : Int) - 1) (bt_range _) (Ev.bin (Ev.bcall (bt_len _) (EvL.cons (Ev.nameC rfl) EvL.nil) (by have := bf_lenL (w := c.w) (ds := gs.map D.int) (by simp; omega); rw [List.length_map, gl] at this; exact this)) Ev.int bin_sub) (by omega) (by omega)) rfl (fun i d hd => ?_) ?_ (.inl rfl) (by rw [upTo_length]; omega) (by walk_at "clos")
    · obtain ⟨hi, rfl⟩ := upTo_is hd
      refine ⟨_, tgk_name, fun Zs E cl C hcl => ⟨true, E ++ σ, Ts.nil, fun _ => ⟨.int (if ga gs i = 1 ∧ ga gs (i + 1) = 2 then kern else 0), ?_, range_snoc _ i⟩, fun h => by cases h⟩⟩
      refine' Ev.vcall (Ev.nameK rfl (hcl ("font", .free) (by decide) rfl)) (ov_kern _) rfl (EvL.cons ?_ (EvL.cons ?_ EvL.nil)) (hk.kern _ kern (ga gs i) (ga gs (i + 1)) _) (by show 1 ≤ c.room; omega)
      · exact Ev.sub (Ev.nameK rfl (hcl ("glyphs", .free) (by decide) rfl)) (Ev.nameL rfl) (sub_lst (by omega) (by omega) (by rw [Int.toNat_natCast]; exact gget i (by omega)))
      · refine Ev.sub (Ev.nameK rfl (hcl ("glyphs", .free) (by decide) rfl)) (Ev.bin (Ev.nameL rfl) Ev.int bin_add) (sub_lst (by omega) (by omega) ?_)
        rw [show ((i : Int) + 1).toNat = i + 1 by omega]; exact gget (i + 1) (by omega)
    rw [← ek]
    generalize hkr : krs kern gs (n - 1) = kr at *
    generalize has : advs adv gs = as at *
    have al : as.length = n := by rw [← has]; simp [gl]
    have kl : kr.length = n - 1 := by rw [← hkr]; simp
    refine Ex.assignC (σ1 := σ) (d := .lst ((begAt as kr n).1.map .int)) (Ev.call (gl_begins_of _) (EvL.cons (Ev.nameC rfl) (EvL.cons (Ev.name rfl) EvL.nil)) (by have := c_begins_of c.w (as := as) (ks := kr) (by omega) (by omega) σ; rw [al] at this; exact this) (by omega)) ?_ rfl
    generalize hbs : (begAt as kr n).1 = bs at *
    have bl : bs.length = n := by rw [← hbs]; exact begAt_len _ _ _
    have el : (lets gs as bs n).map letD = (List.range (upTo n).length).map fun i => letD ⟨ga gs i, ga as i, ga bs i⟩ := by rw [upTo_length, List.map_map]; rfl
    refine Ex.comp (ds := upTo n) (fun _ => σ) (fun i => (List.range i).map fun i => letD ⟨ga gs i, ga as i, ga bs i⟩)
      (EvIt.range (z := (n : Int)) (bt_range _) (Ev.bcall (bt_len _) (EvL.cons (Ev.nameC rfl) EvL.nil) (by have := bf_lenL (w := c.w) (ds := gs.map D.int) (by simp; omega); rw [List.length_map, gl] at this; exact this)) rfl (by omega)) rfl (fun i d hd => ?_) ?_ (.inl rfl) (by rw [upTo_length]; omega) (by walk_at "clos")
    · obtain ⟨hi, rfl⟩ := upTo_is hd
      refine ⟨_, tgk_name, fun Zs E cl C hcl => ⟨true, E ++ σ, Ts.nil, fun _ => ⟨letD ⟨ga gs i, ga as i, ga bs i⟩, ?_, range_snoc _ i⟩, fun h => by cases h⟩⟩
      refine' Ev.call (gl_Letter _) (EvL.cons ?_ (EvL.cons ?_ (EvL.cons ?_ EvL.nil))) (c_Letter _ ⟨ga gs i, ga as i, ga bs i⟩ _) (by show 2 ≤ c.room; omega)
      · exact Ev.sub (Ev.nameK rfl (hcl ("glyphs", .free) (by decide) rfl)) (Ev.nameL rfl) (sub_lst (by omega) (by omega) (by rw [Int.toNat_natCast]; exact gget i (by omega)))
      · exact Ev.sub (Ev.nameK rfl (hcl ("advances", .free) (by decide) rfl)) (Ev.nameL rfl) (sub_lst (by omega) (by omega) (by rw [Int.toNat_natCast]; exact getD_some (by omega)))
      · exact Ev.sub (Ev.nameK rfl (hcl ("begins", .free) (by decide) rfl)) (Ev.nameL rfl) (sub_lst (by omega) (by omega) (by rw [Int.toNat_natCast]; exact getD_some (by omega)))
    rw [← el]
    exact Ex.ret (σ1 := σ) (Ev.tuple (EvL.cons (Ev.name rfl) (EvL.cons (Ev.call (gl_length_of _) (EvL.cons (Ev.nameC rfl) (EvL.cons (Ev.name rfl) EvL.nil)) (c_length_of _ _) (by omega)) EvL.nil))) RetP.rt
/-- what is told of a letter -/
noncomputable def toldOf (ts : List Side) (begin scale : Int × Int) (grain : Int) (l : Let) : Option (Int × P6) :=
  (sideAt ts (middleOf l begin scale grain)).map fun t =>
    (l.glyph, turnedOf scale (frac l.adv 2) (turnOf t) (fdivd (pointOf t (middleOf l begin scale grain)).1 (grain, 1), fdivd (pointOf t (middleOf l begin scale grain)).2 (grain, 1)))
noncomputable abbrev gpts (g : Int) : List (Int × Int) := [(g, 0), (9, g), (0, 5)]
noncomputable abbrev toldD (p : Int × P6) : D := .tup [.lst (segsOf (gpts p.1)), matD p.2]
structure SideB (t : Side) : Prop where
  b : Bd 20 t.begin
  e : Bd 20 (t.begin + t.len)
  l : Bd 20 t.len
  p : 0 < t.len
  o1 : Bd 20 t.one.1
  o2 : Bd 20 t.one.2
  w1 : Bd 20 t.way.1
  w2 : Bd 20 t.way.2
structure LetB (l : Let) : Prop where
  b : Bd 16 l.begin
  a : Bd 16 l.adv
theorem filterMap_take {α β : Type} {l : List α} {i : Nat} {x : α} (f : α → Option β) (h : l[i]? = some x) : (l.take (i + 1)).filterMap f = (l.take i).filterMap f ++ (f x).toList := by
  rw [List.take_add_one, h, List.filterMap_append]
  cases q : f x <;> simp [q]
theorem Bz.turn {t : Side} (h : SideB t) : Bz 20 (turnOf t).1 ∧ Bz 20 (turnOf t).2 := ⟨Bz.frac h.w1 h.l h.p (Nat.le_refl _), Bz.frac h.w2 h.l h.p (Nat.le_refl _)⟩
theorem c_path_letters (w : World) {k1 k2 k3 k4 : Lam} (hk : LamOk k1 k2 k3 k4) {ks : List Nat} {adv : List Int} {kern : Int} {cD : D} {start size : Int × Int} {grain : Int} {anchor : Str} {ls : List Let} {len : Int} {ts : List Side} (σ : Sg)
    (hl : Fn w (.ref 335) 4 [fontD k1 k2 k3 k4 adv kern, .str (txt ks)] σ σ (.tup [.lst (ls.map letD), .int len])) (hs : Fn w (.ref 391) 5 [cD] σ σ (.lst (ts.map sideD)))
    (hst : Bz 6 start) (hsz : Bz 3 size) (hg : Bd 5 grain) (hgp : 0 < grain) (ha : anchor = "start" ∨ anchor = "middle" ∨ anchor = "end") (hlen : Bd 17 len) (hlb : ∀ l ∈ ls, LetB l) (htb : ∀ t ∈ ts, SideB t) (hln : ls.length ≤ 100) :
    Fn w (.ref 427) 8 [fontD k1 k2 k3 k4 adv kern, .int 1000, .str (txt ks), cD, F start, F size, .int grain, .str anchor] σ σ
      (.lst ((ls.filterMap (toldOf ts (fplus start (ftimes (fdivd size (1000, 1)) (shiftOf len anchor))) (fdivd size (1000, 1)) grain)).map toldD)) := by
  have b1000 : Bd 10 (1000 : Int) := by show (1000 : Int).natAbs < 2 ^ 10; decide
  have zsc : Bz 13 (fdivd size (1000, 1)) := hsz.divd (Bz.one b1000) (by decide) (by omega)
  have zsh : Bz 18 (shiftOf len anchor) := by
    have hz : Bd 18 (0 - len) := by unfold Bd at *; omega
    unfold shiftOf
    split
    · exact Bz.one (by show (0 : Int).natAbs < 2 ^ 18; decide)
    · split
      · exact Bz.half hz (by omega)
      · exact Bz.one hz
  have zts : Bz 31 (ftimes (fdivd size (1000, 1)) (shiftOf len anchor)) := zsc.times zsh (by omega)
  have zbg : Bz 38 (fplus start (ftimes (fdivd size (1000, 1)) (shiftOf len anchor))) := hst.plus zts (by omega)
  k_dflt (refine' Fn.def_ (es := []) ["font", "units", "text", "contour", "start", "size", "grain", "anchor"] [] ?k6 ?k7 ?hb ?h1 ?h2 ?h3 ?h4 ?h5 ?h6 ?h7 rfl (by decide) ?body)
  (case k6 => k_is)
  (case k7 => k_is)
  (case hb =>
    intro vs s hl hK
    obtain ⟨v0, vs1, rfl, hl1⟩ := lenS hl
    obtain ⟨v1, vs2, rfl, hl2⟩ := lenS hl1
    obtain ⟨v2, vs3, rfl, hl3⟩ := lenS hl2
    obtain ⟨v3, vs4, rfl, hl4⟩ := lenS hl3
    obtain ⟨v4, vs5, rfl, hl5⟩ := lenS hl4
    obtain ⟨v5, vs6, rfl, hl6⟩ := lenS hl5
    obtain ⟨v6, vs7, rfl, hl7⟩ := lenS hl6
    obtain ⟨v7, rfl⟩ := len1 hl7
    exact ⟨[], BindsTo.of_defaults rfl (hK _ _ (by k_is)) rfl rfl rfl, fun _ => .nil⟩)
  (case h1 => decide)
  (case h2 => decide)
  (case h3 => decide)
  (case h4 => decide)
  (case h5 => rfl)
  (case h6 => rfl)
  (case h7 => rfl)
  case body =>
    intro c hw hr
    subst hw
    refine Ex.unpack2 (σ1 := σ) (d1 := .lst (ls.map letD)) (d2 := .int len) (Ev.call (gl_letters_of _) (EvL.cons (Ev.name rfl) (EvL.cons (Ev.name rfl) EvL.nil)) hl (by omega)) ?_
    refine Ex.assign (σ1 := σ) (d := .lst (ts.map sideD)) (Ev.call (gl_path_sides _) (EvL.cons (Ev.name rfl) EvL.nil) hs (by omega)) ?_
    refine' Ex.assign (σ1 := σ) (d := F (fdivd size (1000, 1))) (Ev.call (gl_divided _) (EvL.cons (Ev.name rfl) (EvL.cons (Ev.call (gl_fraction _) (EvL.cons (Ev.name rfl) EvL.nil) (c_fraction1 _ _) (by omega)) EvL.nil)) (c_divided _ (k := 20) (b := (1000, 1)) (hsz.mono (by omega)) (Bz.one (b1000.mono (by omega))) (by decide) (by omega) _) (by omega)) ?_
    generalize hsc : fdivd size (1000, 1) = scale at *
    refine' Ex.assign (σ1 := σ) (d := F (fplus start (ftimes scale (shiftOf len anchor)))) (Ev.call (gl_plus _) (EvL.cons (Ev.name rfl) (EvL.cons (Ev.call (gl_times _) (EvL.cons (Ev.name rfl) (EvL.cons (Ev.call (gl_anchor_shift _) (EvL.cons (Ev.name rfl) (EvL.cons (Ev.name rfl) EvL.nil)) (c_anchor_shift _ ha _) (by omega)) EvL.nil))
      (c_times _ (k := 20) (zsc.mono (by omega)) (zsh.mono (by omega)) (by omega) _) (by omega)) EvL.nil)) (c_plus _ (k := 40) (hst.mono (by omega)) (zts.mono (by omega)) (by omega) _) (by omega)) ?_
    generalize hbg : fplus start (ftimes scale (shiftOf len anchor)) = begin at *
    refine Ex.assignOwn (σ1 := σ) (ds := []) EvL.nil fun l => ?_
    refine Ex.for_ (ds := ls.map letD) (fun _ => σ) (fun i => [("found", .own l (((ls.take i).filterMap (toldOf ts begin scale grain)).map toldD)), ("begin", .val (F begin)), ("scale", .val (F scale)), ("sides", .val (.lst (ts.map sideD))), ("grain", .val (.int grain)), ("font", .val (fontD k1 k2 k3 k4 adv kern))]) none (EvIt.lst (Ev.name rfl))
      (by walk_at "mem") (fun i d hd => ?_) ?_ fun b e => by cases e
    · obtain ⟨x, hx, rfl⟩ := map_get hd
      have hi : i < ls.length := (List.getElem?_eq_some_iff.mp hx).1
      have hb := hlb x (List.mem_of_getElem? hx)
      refine ⟨_, tg_name, fun Zs E => ?_⟩
      have e : ((ls.take (i + 1)).filterMap (toldOf ts begin scale grain)).map toldD = ((ls.take i).filterMap (toldOf ts begin scale grain)).map toldD ++ (toldOf ts begin scale grain x).toList.map toldD := by rw [filterMap_take _ hx, List.map_append]
      have hfl : (((ls.take i).filterMap (toldOf ts begin scale grain)).map toldD).length ≤ 100 := by
        rw [List.length_map]
        have := List.length_filterMap_le (toldOf ts begin scale grain) (ls.take i)
        have : (ls.take i).length ≤ ls.length := by rw [List.length_take]; omega
        omega
      rw [e]
      have zq : Bz 100 (middleOf x begin scale grain) := by
        have a1 : Bz 16 (frac x.adv 2) := Bz.half hb.a (by omega)
        have a2 : Bz 33 (fplus (x.begin, 1) (frac x.adv 2)) := (Bz.one hb.b).plus a1 (by omega)
        have a3 : Bz 46 (ftimes scale (fplus (x.begin, 1) (frac x.adv 2))) := zsc.times a2 (by omega)
        have a4 : Bz 85 (fplus begin (ftimes scale (fplus (x.begin, 1) (frac x.adv 2)))) := zbg.plus a3 (by omega)
        exact a4.times (Bz.one hg) (by omega)
      refine Ex.assign (σ1 := E ++ σ) (d := F (middleOf x begin scale grain)) (Ev.call (gl_middle_along _) (EvL.cons (Ev.name rfl) (EvL.cons (Ev.name rfl) (EvL.cons (Ev.name rfl) (EvL.cons (Ev.name rfl) EvL.nil)))) (c_middle_along _ (k := 40) (by omega) (by omega) (hb.b.mono (by omega)) (hb.a.mono (by omega)) (zbg.mono (by omega)) (zsc.mono (by omega)) (hg.mono (by omega)) _) (by show 4 ≤ c.room; omega)) ?_
      refine Ex.assign (σ1 := E ++ σ) (d := sideOD (sideAt ts (middleOf x begin scale grain))) (Ev.call (gl_side_at _) (EvL.cons (Ev.name rfl) (EvL.cons (Ev.name rfl) EvL.nil)) (c_side_at _ (k := 100) (fun t ht => ⟨(htb t ht).b.mono (by omega), (htb t ht).e.mono (by omega)⟩) zq (by omega) (by omega) _) (by show 4 ≤ c.room; omega)) ?_
      cases hsd : sideAt ts (middleOf x begin scale grain) with
      | none =>
        have et : toldOf ts begin scale grain x = none := by unfold toldOf; rw [hsd]; rfl
        rw [et]
        refine Ex.if_ (σ1 := E ++ σ) (b := !true) (Tv.cmp (Ev.name rfl) Ev.none (cmp_isNot rfl)) (fun h => by cases h) fun _ => Ex.nil (NextP.then_ (Ex.nil (ForP.next rfl ?_)))
        rw [Option.toList_none, List.map_nil, List.append_nil]
        walk_at "mem"
      | some t =>
        have htm : t ∈ ts := List.mem_of_find?_eq_some hsd
        have tb := htb t htm
        have zt := Bz.turn tb
        generalize hq : middleOf x begin scale grain = q at *
        have et : toldOf ts begin scale grain x = some (x.glyph, turnedOf scale (frac x.adv 2) (turnOf t) (fdivd (pointOf t q).1 (grain, 1), fdivd (pointOf t q).2 (grain, 1))) := by unfold toldOf; rw [hq, hsd]; rfl
        rw [et]
        have q1 : Bz 121 (fminus q (t.begin, 1)) := zq.minus (Bz.one tb.b) (by omega)
        have q2 : Bz 141 (shareOf t q) := q1.divd (Bz.one tb.l) tb.p (by omega)
        have p1 : Bz 182 (pointOf t q).1 := (Bz.one tb.o1).plus (q2.times (Bz.one tb.w1) (Nat.le_refl _)) (by omega)
        have p2 : Bz 182 (pointOf t q).2 := (Bz.one tb.o2).plus (q2.times (Bz.one tb.w2) (Nat.le_refl _)) (by omega)
        have g1 : Bz 187 (fdivd (pointOf t q).1 (grain, 1)) := p1.divd (Bz.one hg) hgp (by omega)
        have g2 : Bz 187 (fdivd (pointOf t q).2 (grain, 1)) := p2.divd (Bz.one hg) hgp (by omega)
        refine Ex.if_ (σ1 := E ++ σ) (b := !false) (Tv.cmp (Ev.name rfl) Ev.none (cmp_isNot rfl)) (fun _ => ?_) fun h => by cases h
        refine Ex.assign (σ1 := E ++ σ) (d := F2 (pointOf t q)) (Ev.meth (Ev.name rfl) (me_point_at _) (EvL.cons (Ev.name rfl) EvL.nil) (c_point _ (k := 100) (by omega) (by omega) tb.p (tb.b.mono (by omega)) (tb.l.mono (by omega)) (tb.o1.mono (by omega)) (tb.o2.mono (by omega)) (tb.w1.mono (by omega)) (tb.w2.mono (by omega)) zq _) (by show 4 ≤ c.room; omega)) ?_
        have dv : ∀ (a : Int × Int), Bz 182 a → Fn c.w (.ref 108) 3 [F a, F (grain, 1)] (E ++ σ) (E ++ σ) (F (fdivd a (grain, 1))) := fun a hz => c_divided _ (k := 182) (b := (grain, 1)) hz (Bz.one (hg.mono (by omega))) (by show grain ≠ 0; omega) (by omega) _
        refine' Ex.assign (σ1 := E ++ σ) (d := F2 (fdivd (pointOf t q).1 (grain, 1), fdivd (pointOf t q).2 (grain, 1))) (Ev.tuple (EvL.cons (Ev.call (gl_divided _) (EvL.cons (Ev.sub (Ev.name rfl) Ev.int (sub_tup rfl rfl)) (EvL.cons (Ev.call (gl_fraction _) (EvL.cons (Ev.name rfl) EvL.nil) (c_fraction1 _ _) (by show 2 ≤ c.room; omega)) EvL.nil)) (dv _ p1) (by show 3 ≤ c.room; omega))
          (EvL.cons (Ev.call (gl_divided _) (EvL.cons (Ev.sub (Ev.name rfl) Ev.int (sub_tup rfl rfl)) (EvL.cons (Ev.call (gl_fraction _) (EvL.cons (Ev.name rfl) EvL.nil) (c_fraction1 _ _) (by show 2 ≤ c.room; omega)) EvL.nil)) (dv _ p2) (by show 3 ≤ c.room; omega)) EvL.nil))) ?_
        refine' Ex.assign (σ1 := E ++ σ) (d := matD (turnedOf scale (frac x.adv 2) (turnOf t) (fdivd (pointOf t q).1 (grain, 1), fdivd (pointOf t q).2 (grain, 1)))) (Ev.call (gl_turned_matrix _) (EvL.cons (Ev.name rfl) (EvL.cons (Ev.call (gl_fraction _) (EvL.cons (Ev.attr (Ev.name rfl) (at_advance _)) (EvL.cons Ev.int EvL.nil)) (c_fraction _ (by decide) bd2 (by omega) _) (by show 2 ≤ c.room; omega)) (EvL.cons (Ev.meth0 (Ev.name rfl) (me_turn _) (c_turn _ (k := 20) (by omega) (by have := tb.p; omega) tb.l _) (by show 3 ≤ c.room; omega)) (EvL.cons (Ev.name rfl) EvL.nil))))
          (c_turned _ (k := 200) (by omega) (zsc.mono (by omega)) ((Bz.half hb.a (by omega)).mono (by omega)) (zt.1.mono (by omega)) (zt.2.mono (by omega)) (g1.mono (by omega)) (g2.mono (by omega)) _) (by show 4 ≤ c.room; omega)) ?_
        refine Ex.append (σ1 := E ++ σ) (d := toldD (x.glyph, turnedOf scale (frac x.adv 2) (turnOf t) (fdivd (pointOf t q).1 (grain, 1), fdivd (pointOf t q).2 (grain, 1)))) rfl ?_ (Ex.nil (NextP.then_ (Ex.nil (ForP.next rfl (by walk_at "mem"))))) (by omega)
        refine' Ev.tuple (EvL.cons (d := .lst (segsOf (gpts x.glyph))) ?_ (EvL.cons (Ev.name rfl) EvL.nil))
        have es : segsOf (gpts x.glyph) = [gpts x.glyph].flatMap segsOf := by simp
        rw [es]
        exact Ev.call (gl_segments_of _) (EvL.cons (Ev.vcall (Ev.name rfl) (ov_outline _) rfl (EvL.cons (Ev.attr (Ev.name rfl) (at_glyph _)) EvL.nil) (hk.outline _ x.glyph _) (by show 3 ≤ c.room; omega)) EvL.nil) (c_segments_of _ (css := [gpts x.glyph]) rfl (Nat.le_of_ble_eq_true rfl) (fun ps hps => by rw [List.mem_singleton.mp hps]; exact ⟨Nat.le_of_ble_eq_true rfl, Nat.le_of_ble_eq_true rfl⟩) _) (by show 6 ≤ c.room; omega)
    · refine Ex.freeze (x := "found") rfl ?_
      rw [List.length_map, List.take_length]
      exact Ex.ret (Ev.name rfl) RetP.rt
/-- Euclid's pair after i turns -/
noncomputable def euc (x y : Nat) : Nat → Nat × Nat
  | 0 => (x, y)
  | i + 1 => if (euc x y i).2 = 0 then euc x y i else ((euc x y i).2, (euc x y i).1 % (euc x y i).2)
theorem euc_gcd (x y : Nat) : ∀ i, Nat.gcd (euc x y i).1 (euc x y i).2 = Nat.gcd x y
  | 0 => rfl
  | i + 1 => by
    have ih := euc_gcd x y i
    unfold euc
    split
    · exact ih
    · rw [← ih]
      show Nat.gcd (euc x y i).2 ((euc x y i).1 % (euc x y i).2) = _
      rw [Nat.gcd_comm, ← Nat.gcd_rec, Nat.gcd_comm]
theorem euc_half (x y : Nat) (i : Nat) : 2 * (euc x y (i + 2)).2 ≤ (euc x y i).2 := by
  have e1 : euc x y (i + 1) = if (euc x y i).2 = 0 then euc x y i else ((euc x y i).2, (euc x y i).1 % (euc x y i).2) := rfl
  have e2 : euc x y (i + 2) = if (euc x y (i + 1)).2 = 0 then euc x y (i + 1) else ((euc x y (i + 1)).2, (euc x y (i + 1)).1 % (euc x y (i + 1)).2) := rfl
  by_cases h : (euc x y i).2 = 0
  · rw [if_pos h] at e1
    rw [e1] at e2
    rw [if_pos h] at e2
    rw [e2]; omega
  · rw [if_neg h] at e1
    have h1 : (euc x y (i + 1)).1 = (euc x y i).2 := by rw [e1]
    have h2 : (euc x y (i + 1)).2 = (euc x y i).1 % (euc x y i).2 := by rw [e1]
    have hlt : (euc x y (i + 1)).2 < (euc x y i).2 := by rw [h2]; exact Nat.mod_lt _ (by omega)
    by_cases h' : (euc x y (i + 1)).2 = 0
    · rw [if_pos h'] at e2
      rw [e2]; omega
    · rw [if_neg h'] at e2
      have h3 : (euc x y (i + 2)).2 = (euc x y i).2 % (euc x y (i + 1)).2 := by rw [e2, h1]
      rw [h3]
      generalize (euc x y i).2 = p at *
      generalize (euc x y (i + 1)).2 = q at *
      have h4 : p % q < q := Nat.mod_lt _ (by omega)
      have h5 : q * (p / q) + p % q = p := Nat.div_add_mod p q
      have h6 : 1 ≤ p / q := Nat.div_pos (by omega) (by omega)
      have h7 : q * 1 ≤ q * (p / q) := Nat.mul_le_mul_left q h6
      omega
theorem euc_lt (x y k : Nat) (h : y < 2 ^ k) : ∀ j, (euc x y (2 * j)).2 * 2 ^ j < 2 ^ k
  | 0 => by simpa [euc] using h
  | j + 1 => by
    have ih := euc_lt x y k h j
    have hh := euc_half x y (2 * j)
    rw [show 2 * (j + 1) = 2 * j + 2 by omega, Nat.pow_succ]
    have : (euc x y (2 * j + 2)).2 * (2 ^ j * 2) = (2 * (euc x y (2 * j + 2)).2) * 2 ^ j := by
      rw [Nat.mul_comm (2 ^ j) 2, ← Nat.mul_assoc, Nat.mul_comm _ 2]
    rw [this]
    exact Nat.lt_of_le_of_lt (Nat.mul_le_mul_right _ hh) ih
theorem euc_end (x y k : Nat) (h : y < 2 ^ k) (hk : k ≤ 200) : (euc x y 400).2 = 0 := by
  have := euc_lt x y 200 (Nat.lt_of_lt_of_le h (Nat.pow_le_pow_right (by omega) hk)) 200
  rw [show 2 * 200 = 400 from rfl] at this
  generalize (euc x y 400).2 = z at *
  rcases Nat.eq_zero_or_pos z with h | h
  · exact h
  · have : 2 ^ 200 ≤ z * 2 ^ 200 := Nat.le_mul_of_pos_left _ h
    omega
theorem euc_one {x y i : Nat} (h : (euc x y i).2 = 0) : (euc x y i).1 = Nat.gcd x y := by
  have := euc_gcd x y i
  rw [h, Nat.gcd_zero_right] at this
  exact this
theorem Fs.brkTo {c : Cx} {S : Scope} {σ : Sg} {E : Sg} {ρ ρb : Rho} {s : Shared} (F : Fs c S .none (E ++ σ) ρ [] [] s) (h : ∀ p ∈ ρb, ρ.lookup p.1 = some p.2) : ∃ q : Sg × Rho, some (σ, ρb) = some q ∧ Fs c S .none (E ++ q.1) q.2 [] [] s :=
  ⟨_, rfl, F.weaken (fun x b e => h (x, b) (mem_lookup e)) (fun _ _ e => e) fun _ e => e⟩
theorem abs_nat (n : Int) : (if n < 0 then -n else n) = (n.natAbs : Int) := by split <;> omega
theorem c_law_low (w : World) {k : Nat} {t b : Int} (h0 : 0 < b) (hb : Bd k b) (hk : k ≤ 200) (σ : Sg) : Fn w (.ref 455) 1 [.int t, .int b] σ σ (F (frac t b)) := by
  have hgp := gcd_pos (t := t) h0
  have hg : (Int.gcd t b : Int) ≠ 0 := by omega
  have hgb : Bd k (Int.gcd t b : Int) := hb.gcd (by omega)
  k_dflt (refine' Fn.def_ (es := []) ["top", "bottom"] [] ?k6 ?k7 ?hb ?h1 ?h2 ?h3 ?h4 ?h5 ?h6 ?h7 rfl (by decide) ?body)
  walk_at "enter"
  case body =>
    intro c hw hr
    subst hw
    have a1 : ∀ n : Int, Bf c.w (.builtin "abs") [.int n] (.int (n.natAbs : Int)) := fun n => by have := bf_abs (w := c.w) (n := n); rw [abs_nat] at this; exact this
    refine' Ex.assign2 (σ1 := σ) (d1 := .int (t.natAbs : Int)) (d2 := .int (b.natAbs : Int)) (EvL.cons (Ev.bcall (bt_abs _) (EvL.cons (Ev.name rfl) EvL.nil) (a1 _)) (EvL.cons (Ev.bcall (bt_abs _) (EvL.cons (Ev.name rfl) EvL.nil) (a1 _)) EvL.nil)) ?_
    have rest : ∀ {sts : List Stmt} {S : Scope}, True := fun {_ _} => trivial
    refine Ex.for_ (ds := upTo 400) (fun _ => σ) (fun i => [("one", .val (.int ((euc t.natAbs b.natAbs i).1 : Int))), ("other", .val (.int ((euc t.natAbs b.natAbs i).2 : Int))), ("top", .val (.int t)), ("bottom", .val (.int b))])
      (some (σ, [("one", .val (.int (Int.gcd t b))), ("top", .val (.int t)), ("bottom", .val (.int b))])) (EvIt.range (n := 400) (z := 400) (bt_range _) Ev.int rfl (by decide)) (by walk_at "mem") (fun i d hd => ?_) ?_ fun q hq => ?_
    · obtain ⟨hi, rfl⟩ := upTo_is hd
      refine ⟨_, tg_name, fun Zs E => ?_⟩
      refine Ex.if_ (σ1 := E ++ σ) (b := (((euc t.natAbs b.natAbs i).2 : Int) == 0)) (Tv.cmp (Ev.name rfl) Ev.int cmp_eq) (fun h => ?_) fun h => Ex.nil (NextP.then_ ?_)
      · have hz : (euc t.natAbs b.natAbs i).2 = 0 := by have := eq_of_beq h; omega
        have e1 := euc_one hz
        rw [e1]
        refine Ex.brk fun s F => ?_
        show ∃ q : Sg × Rho, some (σ, [(("one" : Str), B.val (.int (Int.gcd t b))), ("top", .val (.int t)), ("bottom", .val (.int b))]) = some q ∧ Fs (c.at_ Zs) _ .none (E ++ q.1) q.2 [] [] s
        exact F.brkTo (by walk_at "mem")
      · have hz : (euc t.natAbs b.natAbs i).2 ≠ 0 := fun e => by rw [e] at h; simp at h
        have e2 : euc t.natAbs b.natAbs (i + 1) = ((euc t.natAbs b.natAbs i).2, (euc t.natAbs b.natAbs i).1 % (euc t.natAbs b.natAbs i).2) := by rw [euc]; exact if_neg hz
        rw [e2]
        have em : ((euc t.natAbs b.natAbs i).1 : Int).fmod ((euc t.natAbs b.natAbs i).2 : Int) = (((euc t.natAbs b.natAbs i).1 % (euc t.natAbs b.natAbs i).2 : Nat) : Int) := by
          rw [Int.fmod_eq_emod_of_nonneg _ (Int.natCast_nonneg _)]; rfl
        have bm := bin_mod (w := c.w) (a := ((euc t.natAbs b.natAbs i).1 : Int)) (b := ((euc t.natAbs b.natAbs i).2 : Int)) (by omega)
        rw [em] at bm
        exact Ex.assign2 (σ1 := E ++ σ) (EvL.cons (Ev.name rfl) (EvL.cons (Ev.bin (Ev.name rfl) (Ev.name rfl) bm) EvL.nil)) (Ex.nil (ForP.next rfl (by walk_at "mem")))
    · rw [upTo_length]
      have e1 := euc_one (euc_end t.natAbs b.natAbs k hb hk)
      rw [e1]
      refine Ex.assign (σ1 := σ) (d := .int (Int.gcd t b)) (Ev.ifexp (σ1 := σ) (b := decide (0 < b)) (Tv.cmp (Ev.name rfl) Ev.int cmp_gt) (fun _ => Ev.name rfl) fun h => absurd h0 (of_decide_eq_false h)) ?_
      have e : F (frac t b) = F (t.fdiv (Int.gcd t b), b.fdiv (Int.gcd t b)) := by unfold frac; rw [if_neg (by omega)]
      rw [e]
      exact Ex.ret (σ1 := σ) (Ev.tuple (EvL.cons (Ev.bin (Ev.name rfl) (Ev.name rfl) (bin_fdiv hg hgb (by omega))) (EvL.cons (Ev.bin (Ev.name rfl) (Ev.name rfl) (bin_fdiv hg hgb (by omega))) EvL.nil))) RetP.rt
    · cases hq
      refine Ex.assign (σ1 := σ) (d := .int (Int.gcd t b)) (Ev.ifexp (σ1 := σ) (b := decide (0 < b)) (Tv.cmp (Ev.name rfl) Ev.int cmp_gt) (fun _ => Ev.name rfl) fun h => absurd h0 (of_decide_eq_false h)) ?_
      have e : F (frac t b) = F (t.fdiv (Int.gcd t b), b.fdiv (Int.gcd t b)) := by unfold frac; rw [if_neg (by omega)]
      rw [e]
      exact Ex.ret (σ1 := σ) (Ev.tuple (EvL.cons (Ev.bin (Ev.name rfl) (Ev.name rfl) (bin_fdiv hg hgb (by omega))) (EvL.cons (Ev.bin (Ev.name rfl) (Ev.name rfl) (bin_fdiv hg hgb (by omega))) EvL.nil))) RetP.rt
theorem c_law_sum (w : World) {k : Nat} {a b : Int × Int} (ha : Bz k a) (hb : Bz k b) (hk : k ≤ 4000) (hd : Bd 200 (a.2 * b.2)) (σ : Sg) : Fn w (.ref 462) 2 [F a, F b] σ σ (F (fplus a b)) := by
  k_dflt (refine' Fn.def_ (es := []) ["one", "other"] [] ?k6 ?k7 ?hb ?h1 ?h2 ?h3 ?h4 ?h5 ?h6 ?h7 rfl (by decide) ?body)
  walk_at "enter"
  case body =>
    intro c hw hr
    subst hw
    refine Ex.ret (σ1 := σ) (Ev.call (gl_law_low _) ?_ (c_law_low _ (Int.mul_pos ha.p hb.p) hd (by omega) _) (by omega)) RetP.rt
    walk_at "ev"
    · exact bin_mul (ha.n.mulOk hb.d (by omega))
    · exact bin_mul (hb.n.mulOk ha.d (by omega))
    · exact bin_mul (ha.d.mulOk hb.d (by omega))
theorem c_law_times (w : World) {k : Nat} {a b : Int × Int} (ha : Bz k a) (hb : Bz k b) (hk : k ≤ 4000) (hd : Bd 200 (a.2 * b.2)) (σ : Sg) : Fn w (.ref 469) 2 [F a, F b] σ σ (F (ftimes a b)) := by
  k_dflt (refine' Fn.def_ (es := []) ["one", "other"] [] ?k6 ?k7 ?hb ?h1 ?h2 ?h3 ?h4 ?h5 ?h6 ?h7 rfl (by decide) ?body)
  walk_at "enter"
  case body =>
    intro c hw hr
    subst hw
    refine Ex.ret (σ1 := σ) (Ev.call (gl_law_low _) ?_ (c_law_low _ (Int.mul_pos ha.p hb.p) hd (by omega) _) (by omega)) RetP.rt
    walk_at "ev"
    · exact bin_mul (ha.n.mulOk hb.n (by omega))
    · exact bin_mul (ha.d.mulOk hb.d (by omega))
/-- the source's next figure -/
noncomputable def nxt (p : Int × Int) (top : Int) : (Int × Int) × Int :=
  if 0 < p.1 then ((p.1.fdiv top, p.2), p.1.fmod top) else ((p.1, (p.2 * 16807 + 12345).fmod 2147483647), (((p.2 * 16807 + 12345).fmod 2147483647).fdiv 1024).fmod top)
theorem c_law_next (w : World) {sd : Addr} {p : Int × Int} {top : Int} (ht : 0 < top) (hb : Bd 100 top) (σ1 σ2 : Sg) :
    Fn w (.ref 441) 1 [.val (.ref sd), .int top] (σ1 ++ (sd, Src w p.1 p.2) :: σ2) (σ1 ++ (sd, Src w (nxt p top).1.1 (nxt p top).1.2) :: σ2) (.int (nxt p top).2) := by
  k_dflt (refine' Fn.def_ (es := []) ["source", "top"] [] ?k6 ?k7 ?hb ?h1 ?h2 ?h3 ?h4 ?h5 ?h6 ?h7 ?hs ?hn ?body)
  walk_at "enter"
  case hs => exact sigma_fst
  case hn => decide
  case body =>
    intro c hw hr
    subst hw
    have ht0 : top ≠ 0 := by omega
    refine Ex.if_ (σ1 := σ1 ++ (sd, Src c.w p.1 p.2) :: σ2) (b := decide (0 < p.1)) (Tv.cmp (Ev.srcGet1 (Ev.name rfl)) Ev.int cmp_gt) (fun h => ?_) fun h => Ex.nil (NextP.then_ ?_)
    · have e : nxt p top = ((p.1.fdiv top, p.2), p.1.fmod top) := if_pos (of_decide_eq_true h)
      rw [e]
      refine' Ex.srcSet2 (σ1 := σ1) (σ2 := σ2) (a := p.1) (b := p.2) (a' := p.1.fdiv top) (d2 := .int (p.1.fmod top)) (Ev.tuple (EvL.cons (Ev.bin (Ev.srcGet1 (Ev.name rfl)) (Ev.name rfl) (bin_fdiv ht0 hb)) (EvL.cons (Ev.bin (Ev.srcGet1 (Ev.name rfl)) (Ev.name rfl) (bin_mod ht0)) EvL.nil))) (Ev.name rfl) ?_
      exact Ex.ret (Ev.name rfl) RetP.rt.then_
    · have e : nxt p top = ((p.1, (p.2 * 16807 + 12345).fmod 2147483647), (((p.2 * 16807 + 12345).fmod 2147483647).fdiv 1024).fmod top) := if_neg (of_decide_eq_false h)
      rw [e]
      refine Ex.srcSet (σ1 := σ1) (σ2 := σ2) (a := p.1) (b := p.2) (b' := (p.2 * 16807 + 12345).fmod 2147483647) (Ev.bin (Ev.bin (Ev.bin (Ev.srcGet2 (Ev.name rfl)) Ev.int (bin_mul (IntMulOk.of_right (by decide)))) Ev.int bin_add) Ev.int (bin_mod (by decide))) (Ev.name rfl) ?_
      exact Ex.ret (Ev.bin (Ev.bin (Ev.srcGet2 (Ev.name rfl)) Ev.int (bin_fdiv (by decide) (k := 20) (by show (1024 : Int).natAbs < 2 ^ 20; decide))) (Ev.name rfl) (bin_mod ht0)) RetP.rt
theorem nxt_range (p : Int × Int) {top : Int} (h : 0 < top) : 0 ≤ (nxt p top).2 ∧ (nxt p top).2 < top := by
  unfold nxt
  split
  · exact ⟨Int.fmod_nonneg_of_pos _ h, Int.fmod_lt_of_pos _ h⟩
  · exact ⟨Int.fmod_nonneg_of_pos _ h, Int.fmod_lt_of_pos _ h⟩
theorem c_law_pickL (w : World) {sd : Addr} {p : Int × Int} {ds : List D} {d : D} (h0 : 1 ≤ ds.length) (hz : ds.length ≤ 100) (hd : ds[((nxt p ds.length).2).toNat]? = some d) (σ1 σ2 : Sg) :
    Fn w (.ref 448) 2 [.val (.ref sd), .lst ds] (σ1 ++ (sd, Src w p.1 p.2) :: σ2) (σ1 ++ (sd, Src w (nxt p ds.length).1.1 (nxt p ds.length).1.2) :: σ2) d := by
  have hr' := nxt_range p (top := ds.length) (by omega)
  k_dflt (refine' Fn.def_ (es := []) ["source", "things"] [] ?k6 ?k7 ?hb ?h1 ?h2 ?h3 ?h4 ?h5 ?h6 ?h7 ?hs ?hn ?body)
  walk_at "enter"
  case hs => exact sigma_fst
  case hn => decide
  case body =>
    intro c hw hr
    subst hw
    exact Ex.ret (Ev.sub (Ev.name rfl) (Ev.call (gl_law_next _) (EvL.cons (Ev.name rfl) (EvL.cons (Ev.bcall (bt_len _) (EvL.cons (Ev.name rfl) EvL.nil) (bf_lenL (by omega))) EvL.nil)) (c_law_next _ (by omega) (by unfold Bd; omega) _ _) (by omega)) (sub_lst hr'.1 (by omega) hd)) RetP.rt
theorem c_law_pickS (w : World) {sd : Addr} {p : Int × Int} {ks : List Nat} {k : Nat} (h0 : 1 ≤ ks.length) (hz : ks.length ≤ 100) (hd : ks[((nxt p ks.length).2).toNat]? = some k) (σ1 σ2 : Sg) :
    Fn w (.ref 448) 2 [.val (.ref sd), .str (txt ks)] (σ1 ++ (sd, Src w p.1 p.2) :: σ2) (σ1 ++ (sd, Src w (nxt p ks.length).1.1 (nxt p ks.length).1.2) :: σ2) (.str ⟨#[k]⟩) := by
  have hr' := nxt_range p (top := ks.length) (by omega)
  k_dflt (refine' Fn.def_ (es := []) ["source", "things"] [] ?k6 ?k7 ?hb ?h1 ?h2 ?h3 ?h4 ?h5 ?h6 ?h7 ?hs ?hn ?body)
  walk_at "enter"
  case hs => exact sigma_fst
  case hn => decide
  case body =>
    intro c hw hr
    subst hw
    have hl : Bf c.w (.builtin "len") [.str (txt ks)] (.int ks.length) := by
      have := bf_lenS (w := c.w) (x := txt ks) (by simp [Str.length]; omega)
      rw [show (txt ks).length = ks.length by simp [Str.length]] at this
      exact this
    exact Ex.ret (Ev.sub (Ev.name rfl) (Ev.call (gl_law_next _) (EvL.cons (Ev.name rfl) (EvL.cons (Ev.bcall (bt_len _) (EvL.cons (Ev.name rfl) EvL.nil) hl) EvL.nil)) (c_law_next _ (by omega) (by unfold Bd; omega) _ _) (by omega)) (sub_str hr'.1 (by omega) hd)) RetP.rt
theorem bin_pow {w : World} {a n : Int} (hn : 0 ≤ n) (hn2 : n ≤ 1000000) (ha : a.natAbs < 2 ^ 64) : Bin w .Pow (.int a) (.int n) (.int (a ^ n.toNat)) := fun c S κ σ ρ lv T s Q v1 v2 hw F h => by
  obtain ⟨t, rfl⟩ := F.isInt (.tail _ (.head _)); obtain ⟨u, rfl⟩ := F.isInt (.head _)
  exact pow_int_small hn hn2 ha (h _ _ ((F.drop2.tick _).push fun _ => .int _ _))
noncomputable def bulkOf : List Int → Int
  | [] => 0
  | n :: _ => (n.natAbs : Int)
/-- the source's first state -/
noncomputable def srcOf (ns : List Int) : Int × Int := (if 1000000000000000000 ≤ bulkOf ns then bulkOf ns else 0, (bulkOf ns).fmod 1000003 + 73)
set_option maxHeartbeats 1000000 in
theorem c_law_source (w : World) {ns : List Int} {a b : Int} (ha : (srcOf ns).1 = a) (hb' : (srcOf ns).2 = b) (σ : Sg) : FnG w (.ref 434) 1 [.lst (ns.map .int)] σ (fun σ' d => ∃ sd, σ' = (sd, Src w a b) :: σ ∧ d = .val (.ref sd)) := by
  k_dflt (refine' Fn.defG (es := []) ["script"] [] ?k6 ?k7 ?hb ?h1 ?h2 ?h3 ?h4 ?h5 ?h6 ?h7 ?hs ?hn ?body)
  walk_at "enter"
  case hs =>
    rintro σ' d ⟨sd, rfl, _⟩ p hp
    exact ⟨p, .tail _ hp, rfl⟩
  case hn => decide
  case body =>
    intro c hw hr
    subst hw
    refine Ex.assign (σ1 := σ) (d := .int (bulkOf ns)) (Ev.ifexp (σ1 := σ) (b := !(ns.map D.int).isEmpty) (Tv.cmp (Ev.name rfl) (Ev.list EvL.nil) cmp_neNil) (fun h => ?_) fun h => ?_) ?_
    · cases ns with
      | nil => cases h
      | cons n r =>
        have a1 : Bf c.w (.builtin "abs") [.int n] (.int (n.natAbs : Int)) := by have := bf_abs (w := c.w) (n := n); rw [abs_nat] at this; exact this
        exact Ev.bcall (bt_abs _) (EvL.cons (Ev.sub (Ev.name rfl) Ev.int (sub_lst (by decide) (by decide) rfl)) EvL.nil) a1
    · cases ns with
      | nil => exact Ev.int
      | cons n r => cases h
    refine Ex.retG (EvG.srcNew (a := a) (b := b) (fun τ => ?_) fun τ => ?_)
    · have ep : ((10 : Int) ^ (18 : Int).toNat) = 10 ^ 18 := rfl
      have bp := bin_pow (w := c.w) (a := 10) (n := 18) (by decide) (by decide) (by decide)
      rw [ep] at bp
      refine Ev.ifexp (σ1 := τ :: σ) (b := decide ((1000000000000000000 : Int) ≤ bulkOf ns)) (Tv.cmp (Ev.name rfl) (Ev.bin Ev.int Ev.int bp) cmp_ge) (fun h => ?_) fun h => ?_
      · rw [← ha, show (srcOf ns).1 = bulkOf ns from if_pos (of_decide_eq_true h)]; exact Ev.name rfl
      · rw [← ha, show (srcOf ns).1 = 0 from if_neg (of_decide_eq_false h)]; exact Ev.int
    · rw [← hb', show (srcOf ns).2 = (bulkOf ns).fmod 1000003 + 73 from rfl]
      exact Ev.bin (Ev.bin (Ev.name rfl) Ev.int (bin_mod (by decide))) Ev.int bin_add
theorem Ex.own3 {c : Cx} {S : Scope} {σ σ1 : Sg} {ρ : Rho} {x y z : Str} {px py pz tp vp pos lp lp2 ip : Pos} {k k' ki : Nat} {n : Int} {es : List Expr} {ds : List D} {rest : List Stmt} {P : Flow → Shared → Prop} (h1 : EvL c S .none σ ρ [] es σ1 ds)
    (h2 : ∀ l l', Ex c S σ1 ((x, .own l ds) :: (y, .own l' []) :: (z, .val (.int n)) :: ρ) rest P) (hne : x ≠ y) (hz1 : Nat.ble es.length 1000 = true := by rfl)
    (hx : S.names.lookup x = some .local := by rfl) (hy : S.names.lookup y = some .local := by rfl) (hz : S.names.lookup z = some .local := by rfl)
    (hs : swapsWithSole [.Tuple [.Name x px, .Name y py, .Name z pz] k tp] (.Tuple [.List es lp, .List [] lp2, .Constant (.int n) ki ip] k' vp) pos.line (envAt c S .none) = pure false := by rfl)
    (hw : swappedStores [.Tuple [.Name x px, .Name y py, .Name z pz] k tp] (.Tuple [.List es lp, .List [] lp2, .Constant (.int n) ki ip] k' vp) (envAt c S .none) = pure (some [x, y, z]) := by rfl) :
    Ex c S σ ρ (.Assign [.Tuple [.Name x px, .Name y py, .Name z pz] k tp] (.Tuple [.List es lp, .List [] lp2, .Constant (.int n) ki ip] k' vp) pos :: rest) P := Ex.step fun s F => by
  refine Assign_Tuple_swapped (names := [x, y, z]) (wpAny_Tuple (spliced_more (wpAny_List (h1.2 [] lp s _ F fun vs s1 hl F1 => ⟨by have := Nat.le_of_ble_eq_true hz1; rw [sizeLine_eq, hl, h1.1]; omega, ?_⟩)) (by rfl))) hs hw
  have G1 : FsH c S σ1 ρ [] [] [(x, s1.heap.objs.size, ds)] _ := F1.toH.hold hl x
  refine spliced_more (wpAny_List (spliced_none ⟨by rw [sizeLine_eq]; simp, ?_⟩)) (by rfl)
  have G2 := FsH.hold (vs := []) (ds := []) (T := []) G1 rfl y
  refine spliced_more (wpAny_Constant_int (spliced_none ⟨by rw [sizeLine_eq]; simp, ?_⟩)) (by rfl)
  generalize hl1 : s1.heap.objs.size = l1 at *
  generalize hH1 : s1.heap.push _ = H1 at *
  generalize hl2 : H1.objs.size = l2 at *
  have G3 := (G2.grow (h' := _) (s1.toks + 1) (fun b o e => e)).push (v := .int n s1.toks) (d := .int n) fun _ => .int _ _
  have G4 := G3.push (v := .ref l2) (d := .val (.ref l2)) fun _ => .val _
  have G5 := G4.push (v := .ref l1) (d := .val (.ref l1)) fun _ => .val _
  have G6 := FsH.newTup (vs := [.ref l1, .ref l2, .int n s1.toks]) (ds := [.val (.ref l1), .val (.ref l2), .int n]) (T := []) G5 rfl
  obtain ⟨a, vs3, e, hl3, ht, G7⟩ := G6.openTup (.head _)
  obtain ⟨v1, v2, v3, rfl⟩ := len3 hl3
  cases e
  refine unpackItems_tuple (items := #[v1, v2, v3]) (handled F) ht fun h' hk => ?_
  have G8 := G7.grow (h' := h') (s1.toks + 1) fun b o e => hk b o (Nat.ne_of_lt (Heap.lt_size e)) e
  refine assignInOrder_cons (bindName_ (store_any (T := [(v2, .val (.ref l2)), (v1, .val (.ref l1))]) (G8.temps (T' := [(v3, .int n), (v2, .val (.ref l2)), (v1, .val (.ref l1))]) ?_) (.inl hz) fun s4 G9 => ?_))
  · intro p hp
    rcases List.mem_cons.mp hp with rfl | hp
    · exact .tail _ (.tail _ (.head _))
    · rcases List.mem_cons.mp hp with rfl | hp
      · exact .tail _ (.head _)
      · rcases List.mem_cons.mp hp with rfl | hp
        · exact .head _
        · cases hp
  · exact assignInOrder_cons (bindName_ (store_anyOwn (T := [(v1, .val (.ref l1))]) G9 (.head _) hy fun s5 G10 => assignInOrder_cons (bindName_ (store_anyOwn (T := []) G10 (.tail _ (.head _)) hx fun s6 G11 => assignInOrder_nil (h2 _ _ _ G11.toFs)))))

theorem bdc {k : Nat} {n : Int} (h : Nat.blt n.natAbs (2 ^ k) = true) : Bd k n := Nat.le_of_ble_eq_true h
/-- the law's six ways -/
noncomputable def ways6 : List (Int × Int) := [(3, 4), (4, -3), (-3, 4), (1, 0), (0, -1), (0, 0)]
noncomputable def spot0 (p : Int × Int) : (Int × Int) × (Int × Int) := ((nxt (nxt p 20).1 20).1, ((nxt p 20).2 - 10, (nxt (nxt p 20).1 20).2 - 10))
noncomputable def wayP (q : Int × Int) : Int × Int := ways6.getD (nxt q 6).2.toNat (0, 0)
noncomputable def manyP (q : Int × Int) : Int := 10 * (1 + (nxt (nxt q 6).1 3).2)
noncomputable def stepP (q : (Int × Int) × List (Int × Int)) : (Int × Int) × List (Int × Int) :=
  ((nxt (nxt q.1 6).1 3).1, q.2 ++ [((q.2.getLastD (0, 0)).1 + (wayP q.1).1 * manyP q.1, (q.2.getLastD (0, 0)).2 + (wayP q.1).2 * manyP q.1)])
noncomputable def walkP (p : Int × Int) : Nat → (Int × Int) × List (Int × Int)
  | 0 => ((nxt (spot0 p).1 4).1, [(spot0 p).2])
  | i + 1 => stepP (walkP p i)
noncomputable def turnsP (p : Int × Int) : Nat := (1 + (nxt (spot0 p).1 4).2).toNat
noncomputable def spotsP (p : Int × Int) : List (Int × Int) := (walkP p (turnsP p)).2
noncomputable def closedP (p : Int × Int) : Bool := (spotsP p).length == 2 && (nxt (walkP p (turnsP p)).1 2).2 == 0
noncomputable def pathEnd (p : Int × Int) : Int × Int := if (spotsP p).length = 2 then (nxt (walkP p (turnsP p)).1 2).1 else (walkP p (turnsP p)).1
theorem wayP_mem (q : Int × Int) : wayP q ∈ ways6 := by
  unfold wayP
  rw [List.getD]
  cases h : ways6[(nxt q 6).2.toNat]? with
  | none => exact by decide
  | some x => exact List.mem_of_getElem? h
theorem wayP_bd (q : Int × Int) : Bd 3 (wayP q).1 ∧ Bd 3 (wayP q).2 := by
  have h : ∀ v ∈ ways6, v.1.natAbs < 2 ^ 3 ∧ v.2.natAbs < 2 ^ 3 := by decide
  exact h _ (wayP_mem q)
theorem manyP_is (q : Int × Int) : manyP q = 10 ∨ manyP q = 20 ∨ manyP q = 30 := by
  have := nxt_range (nxt q 6).1 (top := 3) (by decide)
  unfold manyP
  omega
theorem manyP_bd (q : Int × Int) : Bd 5 (manyP q) := by
  have := manyP_is q
  unfold Bd
  omega
theorem walkP_len (p : Int × Int) : ∀ i, (walkP p i).2.length = i + 1
  | 0 => rfl
  | i + 1 => by simp [walkP, stepP, walkP_len p i]
theorem turnsP_le (p : Int × Int) : 1 ≤ turnsP p ∧ turnsP p ≤ 4 := by
  have := nxt_range (spot0 p).1 (top := 4) (by decide)
  unfold turnsP
  omega
theorem last_P2 {l : List (Int × Int)} (h : l ≠ []) : (l.map P2).getLast? = some (P2 (l.getLastD (0, 0))) := by
  rw [List.getLast?_map, List.getLast?_eq_some_getLast h]
  cases l with
  | nil => exact absurd rfl h
  | cons a r => simp [List.getLastD]
theorem zip_at {R : List (Int × Int)} {i : Nat} {d : D} (h : ((((R.map P2).zip ((R.map P2).drop 1)).map fun q => [q.1, q.2]).map D.tup)[i]? = some d) : i + 1 < R.length ∧ d = .tup [P2 (pt R i), P2 (pt R (i + 1))] := by
  rw [List.getElem?_map, List.getElem?_map, Option.map_map, Option.map_eq_some_iff] at h
  obtain ⟨q, hq, rfl⟩ := h
  have h1 := List.getElem?_zip_eq_some.mp hq
  obtain ⟨h2, h3⟩ := h1
  rw [List.getElem?_drop] at h3
  have hl : 1 + i < (R.map P2).length := (List.getElem?_eq_some_iff.mp h3).1
  rw [List.length_map] at hl
  rw [pt_get (by omega)] at h2
  rw [show 1 + i = i + 1 by omega, pt_get (by omega)] at h3
  refine ⟨by omega, ?_⟩
  have e2 := Option.some.inj h2
  have e3 := Option.some.inj h3
  show D.tup [q.1, q.2] = _
  rw [← e2, ← e3]
noncomputable def farM (v : Int × Int) : Int := if (if v.2 < 0 then -v.2 else v.2) > (if v.1 < 0 then -v.1 else v.1) then (if v.2 < 0 then -v.2 else v.2) else (if v.1 < 0 then -v.1 else v.1)
noncomputable abbrev sideT (t : Side) : D := .tup [P2 t.one, P2 t.way, .int t.len, .int t.begin]
theorem farOf_eq (v : Int × Int) : farOf v = if v.1 ≠ 0 ∧ v.2 ≠ 0 then (farM v * 5).fdiv 4 else farM v := rfl
set_option maxHeartbeats 2000000 in
theorem c_law_path (w : World) {sd : Addr} {p : Int × Int} (σ1 σ2 : Sg) :
    Fn w (.ref 476) 3 [.val (.ref sd)] (σ1 ++ (sd, Src w p.1 p.2) :: σ2) (σ1 ++ (sd, Src w (pathEnd p).1 (pathEnd p).2) :: σ2)
      (.tup [.tup [.tup ((spotsP p).map P2), .bool (closedP p)], .lst ((sidesTo (roundOf (spotsP p) (closedP p)) ((roundOf (spotsP p) (closedP p)).length - 1)).1.map sideT), .int (sidesTo (roundOf (spotsP p) (closedP p)) ((roundOf (spotsP p) (closedP p)).length - 1)).2]) := by
  have ht := turnsP_le p
  have hwl := walkP_len p
  have hsl : (spotsP p).length = turnsP p + 1 := hwl _
  k_dflt (refine' Fn.def_ (es := []) ["source"] [] ?k6 ?k7 ?hb ?h1 ?h2 ?h3 ?h4 ?h5 ?h6 ?h7 ?hs ?hn ?body)
  walk_at "enter"
  case hs => exact sigma_fst
  case hn => decide
  case body =>
    intro c hw hr
    subst hw
    refine' Ex.own3 (σ1 := σ1 ++ (sd, Src c.w (spot0 p).1.1 (spot0 p).1.2) :: σ2) (ds := [P2 (spot0 p).2]) (EvL.cons (Ev.tuple (EvL.cons (Ev.bin (Ev.call (gl_law_next _) (EvL.cons (Ev.name rfl) (EvL.cons Ev.int EvL.nil)) (c_law_next _ (by decide) (bdc rfl) _ _) (by omega)) Ev.int bin_sub) (EvL.cons (Ev.bin (Ev.call (gl_law_next _) (EvL.cons (Ev.name rfl) (EvL.cons Ev.int EvL.nil)) (c_law_next _ (by decide) (bdc rfl) _ _) (by omega)) Ev.int bin_sub) EvL.nil))) EvL.nil) (fun l l' => ?_) (by decide)
    refine Ex.for_ (ds := upTo (turnsP p)) (fun i => σ1 ++ (sd, Src c.w (walkP p i).1.1 (walkP p i).1.2) :: σ2) (fun i => [("spots", .own l ((walkP p i).2.map P2)), ("sides", .own l' []), ("begin", .val (.int 0)), ("source", .val (.val (.ref sd)))]) none
      (EvIt.range (z := 1 + (nxt (spot0 p).1 4).2) (bt_range _) (Ev.bin Ev.int (Ev.call (gl_law_next _) (EvL.cons (Ev.name rfl) (EvL.cons Ev.int EvL.nil)) (c_law_next _ (by decide) (bdc rfl) _ _) (by omega)) bin_add) (by unfold turnsP; have := nxt_range (spot0 p).1 (top := 4) (by decide); omega) (by omega))
      (by walk_at "mem") (fun i d hd => ?_) ?_ fun b e => by cases e
    · obtain ⟨hi, rfl⟩ := upTo_is hd
      refine ⟨_, tg_name, fun Zs E => ?_⟩
      have ew : walkP p (i + 1) = stepP (walkP p i) := rfl
      rw [ew]
      have hl1 := hwl i
      generalize walkP p i = q at *
      have hne : q.2 ≠ [] := fun e => by rw [e] at hl1; cases hl1
      rw [← List.append_assoc]
      have hpk := c_law_pickL c.w (sd := sd) (p := q.1) (ds := ways6.map P2) (d := P2 (wayP q.1)) (by decide) (by decide) (by
        rw [show ((ways6.map P2).length : Int) = 6 from rfl, List.getElem?_map]
        have hr6 := nxt_range q.1 (top := 6) (by decide)
        unfold wayP
        rw [List.getD, List.getElem?_eq_getElem (show (nxt q.1 6).2.toNat < ways6.length by show _ < 6; omega)]
        rfl) (E ++ σ1) σ2
      rw [show ((ways6.map P2).length : Int) = 6 from rfl] at hpk
      refine' Ex.unpack2 (σ1 := (E ++ σ1) ++ (sd, Src c.w (nxt q.1 6).1.1 (nxt q.1 6).1.2) :: σ2) (d1 := .int (wayP q.1).1) (d2 := .int (wayP q.1).2) (Ev.call (gl_law_pick _) (EvL.cons (Ev.name rfl) (EvL.cons (d := .lst (ways6.map P2)) ?_ EvL.nil)) hpk (by show 2 ≤ c.room; omega)) ?_
      · show Ev _ _ _ _ _ _ _ _ (.lst [P2 (3, 4), P2 (4, -3), P2 (-3, 4), P2 (1, 0), P2 (0, -1), P2 (0, 0)])
        walk_at "ev"
      have hn3 := nxt_range (nxt q.1 6).1 (top := 3) (by decide)
      refine' Ex.assign (σ1 := (E ++ σ1) ++ (sd, Src c.w (nxt (nxt q.1 6).1 3).1.1 (nxt (nxt q.1 6).1 3).1.2) :: σ2) (d := .int (manyP q.1)) (Ev.bin Ev.int (Ev.bin Ev.int (Ev.call (gl_law_next _) (EvL.cons (Ev.name rfl) (EvL.cons Ev.int EvL.nil)) (c_law_next _ (by decide) (bdc rfl) _ _) (by show 1 ≤ c.room; omega)) bin_add) (bin_mul (IntMulOk.of_left (by decide)))) ?_
      refine Ex.append (σ1 := (E ++ σ1) ++ (sd, Src c.w (nxt (nxt q.1 6).1 3).1.1 (nxt (nxt q.1 6).1 3).1.2) :: σ2) (d := P2 ((q.2.getLastD (0, 0)).1 + (wayP q.1).1 * manyP q.1, (q.2.getLastD (0, 0)).2 + (wayP q.1).2 * manyP q.1)) rfl ?_ (Ex.nil (ForP.next (List.append_assoc _ _ _) ?_)) (by rw [List.length_map]; omega)
      · refine' Ev.tuple (EvL.cons (Ev.bin (Ev.sub (Ev.ownLast (d := P2 (q.2.getLastD (0, 0))) rfl (last_P2 hne) (by rw [List.length_map]; omega)) Ev.int (sub_tup rfl rfl)) (Ev.bin (Ev.name rfl) (Ev.name rfl) (bin_mul (((wayP_bd q.1).1.mono (by decide)).mulOk (manyP_bd q.1) (by decide)))) bin_add)
          (EvL.cons (Ev.bin (Ev.sub (Ev.ownLast (d := P2 (q.2.getLastD (0, 0))) rfl (last_P2 hne) (by rw [List.length_map]; omega)) Ev.int (sub_tup rfl rfl)) (Ev.bin (Ev.name rfl) (Ev.name rfl) (bin_mul (((wayP_bd q.1).2.mono (by decide)).mulOk (manyP_bd q.1) (by decide)))) bin_add) EvL.nil))
      · have e : (stepP q).2.map P2 = q.2.map P2 ++ [P2 ((q.2.getLastD (0, 0)).1 + (wayP q.1).1 * manyP q.1, (q.2.getLastD (0, 0)).2 + (wayP q.1).2 * manyP q.1)] := by unfold stepP; rw [List.map_append]; rfl
        rw [e]
        walk_at "mem"
    · rw [upTo_length]
      have es : (walkP p (turnsP p)).2 = spotsP p := rfl
      rw [es]
      refine Ex.freeze (x := "spots") rfl ?_
      have hlen : Bf c.w (.builtin "len") [.lst ((spotsP p).map P2)] (.int (spotsP p).length) := by
        have := bf_lenL (w := c.w) (ds := (spotsP p).map P2) (by rw [List.length_map]; omega); rw [List.length_map] at this; exact this
      refine Ex.assign (σ1 := σ1 ++ (sd, Src c.w (pathEnd p).1 (pathEnd p).2) :: σ2) (d := .bool (closedP p)) ?_ ?_
      · refine Ev.and2 (p := ((spotsP p).length : Int) == 2) (Ev.cmp (Ev.bcall (bt_len _) (EvL.cons (Ev.name rfl) EvL.nil) hlen) Ev.int cmp_eq) (fun h => ?_) fun h => ?_
        · have h2 : (spotsP p).length = 2 := by have := eq_of_beq h; omega
          have e1 : pathEnd p = (nxt (walkP p (turnsP p)).1 2).1 := if_pos h2
          have e2 : closedP p = ((nxt (walkP p (turnsP p)).1 2).2 == 0) := by unfold closedP; rw [h2]; rfl
          rw [e1, e2]
          exact Ev.cmp (Ev.call (gl_law_next _) (EvL.cons (Ev.name rfl) (EvL.cons Ev.int EvL.nil)) (c_law_next _ (by decide) (bdc rfl) _ _) (by omega)) Ev.int cmp_eq
        · have h2 : ¬ (spotsP p).length = 2 := fun e => by rw [e] at h; cases h
          have e1 : pathEnd p = (walkP p (turnsP p)).1 := if_neg h2
          have e2 : closedP p = false := by unfold closedP; rw [beq_eq_false_iff_ne.mpr h2]; rfl
          exact ⟨by rw [e1], by rw [e2]⟩
      have hcl : closedP p = true → (spotsP p).length = 2 := fun h => by
        unfold closedP at h
        rw [Bool.and_eq_true] at h
        exact eq_of_beq h.1
      generalize closedP p = closed at *
      generalize pathEnd p = pe at *
      generalize spotsP p = ps at *
      have em : (roundOf ps closed).map P2 = ps.map P2 ++ (if closed then ps.take 1 else []).map P2 := by unfold roundOf; simp
      refine Ex.assign (σ1 := σ1 ++ (sd, Src c.w pe.1 pe.2) :: σ2) (d := .lst ((roundOf ps closed).map P2)) ?_ ?_
      · rw [em]
        refine Ev.bin (d2 := .lst ((if closed then ps.take 1 else []).map P2)) (Ev.name rfl) ?_ (bin_addLst (by split <;> simp <;> omega))
        refine Ev.ifexp (b := closed) (Tv.val (Ev.name rfl)) (fun h => ?_) fun h => ?_
        · subst h
          rw [if_pos rfl, List.map_take]
          exact Ev.uptoL (a := 1) (Ev.name rfl) Ev.int (by simp; omega)
        · subst h
          exact Ev.list EvL.nil
      have hrl : (roundOf ps closed).length ≤ 200 := by unfold roundOf; split <;> simp <;> omega
      have hr1 : 1 ≤ (roundOf ps closed).length := by unfold roundOf; simp; omega
      generalize hR : roundOf ps closed = R at *
      refine Ex.for_ (ds := (((R.map P2).zip ((R.map P2).drop 1)).map fun q => [q.1, q.2]).map D.tup) (fun _ => σ1 ++ (sd, Src c.w pe.1 pe.2) :: σ2) (fun i => [("sides", .own l' ((sidesTo R i).1.map sideT)), ("begin", .val (.int (sidesTo R i).2)), ("spots", .val (.lst (ps.map P2))), ("is_closed", .val (.bool closed))]) none
        (EvIt.zip2 (bt_zip _) (EvL.cons (Ev.name rfl) (EvL.cons (Ev.fromL (a := 1) (Ev.name rfl) Ev.int (by simp; omega)) EvL.nil))) (by walk_at "mem") (fun i d hd => ?_) ?_ fun b e => by cases e
      · obtain ⟨hi, rfl⟩ := zip_at hd
        refine ⟨_, tg_two, fun Zs E => ?_⟩
        generalize hone : pt R i = one
        generalize hoth : pt R (i + 1) = other
        have ew : wayAt R i = (other.1 - one.1, other.2 - one.2) := by rw [← hone, ← hoth]
        refine Ex.assign (σ1 := E ++ (σ1 ++ (sd, Src c.w pe.1 pe.2) :: σ2)) (d := P2 (wayAt R i)) ?_ ?_
        · rw [ew]
          exact Ev.tuple (EvL.cons (Ev.bin (Ev.sub (Ev.name rfl) Ev.int (sub_tup rfl rfl)) (Ev.sub (Ev.name rfl) Ev.int (sub_tup rfl rfl)) bin_sub) (EvL.cons (Ev.bin (Ev.sub (Ev.name rfl) Ev.int (sub_tup rfl rfl)) (Ev.sub (Ev.name rfl) Ev.int (sub_tup rfl rfl)) bin_sub) EvL.nil))
        generalize hv : wayAt R i = v at *
        refine Ex.assign (σ1 := E ++ (σ1 ++ (sd, Src c.w pe.1 pe.2) :: σ2)) (d := .int (farM v)) (Ev.bcall (bt_max _) (EvL.cons (Ev.bcall (bt_abs _) (EvL.cons (Ev.sub (Ev.name rfl) Ev.int (sub_tup rfl rfl)) EvL.nil) bf_abs) (EvL.cons (Ev.bcall (bt_abs _) (EvL.cons (Ev.sub (Ev.name rfl) Ev.int (sub_tup rfl rfl)) EvL.nil) bf_abs) EvL.nil)) bf_max) ?_
        refine Ex.assign (σ1 := E ++ (σ1 ++ (sd, Src c.w pe.1 pe.2) :: σ2)) (d := .int (farOf v)) ?_ ?_
        · refine Ev.ifexp (b := (v.1 != 0) && (v.2 != 0)) (Tv.and2 (Tv.cmp (Ev.sub (Ev.name rfl) Ev.int (sub_tup rfl rfl)) Ev.int cmp_ne) fun _ => Tv.cmp (Ev.sub (Ev.name rfl) Ev.int (sub_tup rfl rfl)) Ev.int cmp_ne) (fun h => ?_) fun h => ?_
          · have hn : v.1 ≠ 0 ∧ v.2 ≠ 0 := by simpa using h
            rw [farOf_eq, if_pos hn]
            exact Ev.bin (Ev.bin (Ev.name rfl) Ev.int (bin_mul (IntMulOk.of_right (by decide)))) Ev.int (bin_fdiv (by decide) (k := 20) (bdc rfl))
          · have hn : ¬ (v.1 ≠ 0 ∧ v.2 ≠ 0) := by simpa using h
            rw [farOf_eq, if_neg hn]
            exact Ev.name rfl
        refine Ex.if_ (σ1 := E ++ (σ1 ++ (sd, Src c.w pe.1 pe.2) :: σ2)) (b := decide (0 < farOf v)) (Tv.cmp (Ev.name rfl) Ev.int cmp_gt) (fun h => ?_) fun h => ?_
        · have e : sidesTo R (i + 1) = ((sidesTo R i).1 ++ [⟨one, v, farOf v, (sidesTo R i).2⟩], (sidesTo R i).2 + farOf v) := by
            rw [sidesTo, hv, hone]; exact if_pos (of_decide_eq_true h)
          rw [e]
          refine Ex.append (σ1 := E ++ (σ1 ++ (sd, Src c.w pe.1 pe.2) :: σ2)) (d := sideT ⟨one, v, farOf v, (sidesTo R i).2⟩) rfl (by walk_at "ev") ?_ (by have := sidesTo_len R i; simp; omega)
          refine Ex.assign (σ1 := E ++ (σ1 ++ (sd, Src c.w pe.1 pe.2) :: σ2)) (d := .int ((sidesTo R i).2 + farOf v)) (by walk_at "ev") (Ex.nil (NextP.then_ (Ex.nil (ForP.next rfl ?_))))
          rw [List.map_append, List.map_cons, List.map_nil]
          walk_at "mem"
        · have e : sidesTo R (i + 1) = sidesTo R i := by rw [sidesTo, hv]; exact if_neg (of_decide_eq_false h)
          rw [e]
          exact Ex.nil (NextP.then_ (Ex.nil (ForP.next rfl (by walk_at "mem"))))
      · refine Ex.freeze (x := "sides") rfl ?_
        have el : ((((R.map P2).zip ((R.map P2).drop 1)).map fun q => [q.1, q.2]).map D.tup).length = R.length - 1 := by simp
        rw [el]
        exact Ex.ret (Ev.tuple (EvL.cons (Ev.tuple (EvL.cons (Ev.tcall (bt_tuple _) (EvL.cons (Ev.name rfl) EvL.nil) (bf_tupleL (by simp; omega))) (EvL.cons (Ev.name rfl) EvL.nil))) (EvL.cons (Ev.name rfl) (EvL.cons (Ev.name rfl) EvL.nil)))) RetP.rt
/-- the kern ahead of a sign, as the law reckons it -/
noncomputable def kernAt (ks : List Nat) (kern : Int) (i : Nat) : Int := if 1 ≤ i ∧ ks.getD (i - 1) 0 = 97 ∧ ks.getD i 0 = 98 then kern else 0
noncomputable def mids (ks : List Nat) (adv : List Int) (kern : Int) : Nat → List Int × Int
  | 0 => ([], 0)
  | i + 1 => ((mids ks adv kern i).1 ++ [2 * ((mids ks adv kern i).2 + kernAt ks kern i) + adv.getD (ks.getD i 0 - 97) 0], (mids ks adv kern i).2 + kernAt ks kern i + adv.getD (ks.getD i 0 - 97) 0)
noncomputable def shiftL (here : Int) (x : Str) : Int := if x = "start" then 0 else if x = "middle" then here else 2 * here
/-- twice the middles of the letters, as the law reckons them -/
noncomputable def middlesOf (ks : List Nat) (adv : List Int) (kern : Int) (anchor : Str) : List Int := (mids ks adv kern ks.length).1.map fun h => h - shiftL (mids ks adv kern ks.length).2 anchor
theorem mids_len (ks : List Nat) (adv : List Int) (kern : Int) : ∀ i, (mids ks adv kern i).1.length = i
  | 0 => rfl
  | i + 1 => by simp [mids, mids_len ks adv kern i]
theorem enum_at {ks : List Nat} {i : Nat} {d : D} (h : ((ks.zipIdx.map fun q => [D.int q.2, D.str ⟨#[q.1]⟩]).map D.tup)[i]? = some d) : i < ks.length ∧ d = .tup [.int i, .str ⟨#[ks.getD i 0]⟩] := by
  rw [List.getElem?_map, List.getElem?_map, Option.map_map, Option.map_eq_some_iff] at h
  obtain ⟨q, hq, rfl⟩ := h
  rw [List.getElem?_zipIdx, Option.map_eq_some_iff] at hq
  obtain ⟨k, hk, rfl⟩ := hq
  have hi := (List.getElem?_eq_some_iff.mp hk).1
  refine ⟨hi, ?_⟩
  rw [List.getD, hk]
  show D.tup [.int (((0 + i : Nat) : Int)), _] = _
  rw [Nat.zero_add]
  rfl
noncomputable def cutAt (ks : List Nat) (i : Nat) : Str := cut (txt ks) (if (0 : Int) > (i : Int) - 1 then 0 else (i : Int) - 1) ((i : Int) + 1)
theorem two_ab {a b : Nat} : ((⟨#[a, b]⟩ : Str) == "ab") = decide (a = 97 ∧ b = 98) := by
  rw [show ("ab" : Str) = ⟨#[97, 98]⟩ by decide +kernel, Bool.eq_iff_iff]
  simp
theorem one_ab {a : Nat} : ((⟨#[a]⟩ : Str) == "ab") = false := by
  rw [show ("ab" : Str) = ⟨#[97, 98]⟩ by decide +kernel, Bool.eq_iff_iff]
  simp
theorem cutAt_is {ks : List Nat} (h : Abc ks) {i : Nat} (hi : i < ks.length) : cutAt ks i = if i = 0 then ⟨#[ks.getD 0 0]⟩ else ⟨#[ks.getD (i - 1) 0, ks.getD i 0]⟩ := by
  have hl := h.len
  match ks, i, hi, hl with
  | [a], 0, _, _ => rfl
  | [a, b], 0, _, _ => rfl
  | [a, b], 1, _, _ => rfl
  | [a, b, d], 0, _, _ => rfl
  | [a, b, d], 1, _, _ => rfl
  | [a, b, d], 2, _, _ => rfl
theorem cutAt_eq {ks : List Nat} (h : Abc ks) {i : Nat} (hi : i < ks.length) : (cutAt ks i == "ab") = decide (1 ≤ i ∧ ks.getD (i - 1) 0 = 97 ∧ ks.getD i 0 = 98) := by
  rw [cutAt_is h hi]
  split
  · rename_i e; subst e; rw [one_ab]; simp
  · rename_i e; rw [two_ab]; congr 1; simp; omega
theorem cutAt_whole {ks : List Nat} (h : Abc ks) {i : Nat} (hi : i < ks.length) : (slicePicked (txt ks) (some ((if (0 : Int) > (i : Int) - 1 then 0 else (i : Int) - 1), 0)) (some ((i : Int) + 1, 0)) Option.none).length = (txt ks).length → cutAt ks i = txt ks := by
  have hl := h.len
  match ks, i, hi, hl with
  | [a], 0, _, _ => exact fun _ => rfl
  | [a, b], 0, _, _ => exact fun h => absurd (show (1 : Nat) = 2 from h) (by decide)
  | [a, b], 1, _, _ => exact fun _ => rfl
  | [a, b, d], 0, _, _ => exact fun h => absurd (show (1 : Nat) = 3 from h) (by decide)
  | [a, b, d], 1, _, _ => exact fun h => absurd (show (2 : Nat) = 3 from h) (by decide)
  | [a, b, d], 2, _, _ => exact fun h => absurd (show (2 : Nat) = 3 from h) (by decide)
set_option maxHeartbeats 2000000 in
theorem c_law_middles (w : World) {ks : List Nat} (ht : Abc ks) {adv : List Int} (ha : adv.length = 3) {kern : Int} {anchor : Str} (hx : anchor = "start" ∨ anchor = "middle" ∨ anchor = "end") (σ : Sg) :
    Fn w (.ref 488) 1 [.str (txt ks), .lst (adv.map .int), .int kern, .str anchor] σ σ (.lst ((middlesOf ks adv kern anchor).map .int)) := by
  have hn := ht.len
  have hp := ht.pos
  k_dflt (refine' Fn.def_ (es := []) ["text", "advances", "kern", "anchor"] ["shift"] ?k6 ?k7 ?hb ?h1 ?h2 ?h3 ?h4 ?h5 ?h6 ?h7 rfl (by decide) ?body)
  walk_at "enter"
  case body =>
    intro c hw hr
    subst hw
    refine Ex.own2 (fun l => ?_) rfl (.inl rfl)
    refine Ex.for_ (ds := (ks.zipIdx.map fun q => [D.int q.2, D.str ⟨#[q.1]⟩]).map D.tup) (fun _ => σ) (fun i => [("found", .own l ((mids ks adv kern i).1.map .int)), ("here", .val (.int (mids ks adv kern i).2)), ("text", .val (.str (txt ks))), ("advances", .val (.lst (adv.map .int))), ("kern", .val (.int kern)), ("anchor", .val (.str anchor)), ("shift", .unset)]) none
      (EvIt.enumS (bt_enumerate _) ht.ascii (Ev.name rfl)) (by walk_at "mem") (fun i d hd => ?_) ?_ fun b e => by cases e
    · obtain ⟨hi, rfl⟩ := enum_at hd
      refine ⟨_, tg_two, fun Zs E => ?_⟩
      have hml := mids_len ks adv kern i
      have em : mids ks adv kern (i + 1) = ((mids ks adv kern i).1 ++ [2 * ((mids ks adv kern i).2 + kernAt ks kern i) + adv.getD (ks.getD i 0 - 97) 0], (mids ks adv kern i).2 + kernAt ks kern i + adv.getD (ks.getD i 0 - 97) 0) := rfl
      rw [em]
      have hce := cutAt_eq ht hi
      have hcw := cutAt_whole ht hi
      have hk : ks.getD i 0 = 97 ∨ ks.getD i 0 = 98 ∨ ks.getD i 0 = 99 := by
        rw [List.getD, List.getElem?_eq_getElem hi]
        exact ht.abc _ (List.getElem_mem hi)
      have hz : (cutAt ks i).length ≤ 1000 := by
        rw [cutAt_is ht hi]; split <;> exact Nat.le_of_ble_eq_true rfl
      refine Ex.assign (σ1 := E ++ σ) (d := .int ((mids ks adv kern i).2 + kernAt ks kern i)) (Ev.bin (Ev.name rfl) (Ev.ifexp (b := cutAt ks i == "ab") (Tv.cmp (Ev.cutS (Ev.name rfl) (Ev.bcall (bt_max _) (EvL.cons (Ev.bin (Ev.name rfl) Ev.int bin_sub) (EvL.cons Ev.int EvL.nil)) bf_max) (Ev.bin (Ev.name rfl) Ev.int bin_add) hcw hz) Ev.str cmp_eqS) (fun h => ?_) fun h => ?_) bin_add) ?_
      · rw [hce] at h
        rw [show kernAt ks kern i = kern from if_pos (of_decide_eq_true h)]
        exact Ev.name rfl
      · rw [hce] at h
        rw [show kernAt ks kern i = 0 from if_neg (of_decide_eq_false h)]
        exact Ev.int
      generalize hh : (mids ks adv kern i).2 + kernAt ks kern i = here at *
      refine Ex.assign (σ1 := E ++ σ) (d := .int (adv.getD (ks.getD i 0 - 97) 0)) (Ev.sub (Ev.name rfl) (Ev.bin (Ev.bcall (bt_ord _) (EvL.cons (Ev.name rfl) EvL.nil) bf_ord) Ev.int bin_sub) (sub_lst (by omega) (by omega) ?_)) ?_
      · rw [show ((ks.getD i 0 : Int) - 97).toNat = ks.getD i 0 - 97 by omega]
        exact getD_some (by omega)
      refine Ex.append (σ1 := E ++ σ) (d := .int (2 * here + adv.getD (ks.getD i 0 - 97) 0)) rfl (Ev.bin (Ev.bin Ev.int (Ev.name rfl) (bin_mul (IntMulOk.of_left (by decide)))) (Ev.name rfl) bin_add) ?_ (by rw [List.length_map]; omega)
      refine Ex.assign (σ1 := E ++ σ) (d := .int (here + adv.getD (ks.getD i 0 - 97) 0)) (Ev.bin (Ev.name rfl) (Ev.name rfl) bin_add) (Ex.nil (ForP.next rfl ?_))
      rw [List.map_append, List.map_cons, List.map_nil]
      walk_at "mem"
    · have el : ((ks.zipIdx.map fun q => [D.int q.2, D.str ⟨#[q.1]⟩]).map D.tup).length = ks.length := by simp
      generalize ((ks.zipIdx.map fun q => [D.int q.2, D.str ⟨#[q.1]⟩]).map D.tup).length = N at *
      subst el
      refine Ex.freeze (x := "found") rfl ?_
      refine Ex.assignC (σ1 := σ) (d := .int (shiftL (mids ks adv kern ks.length).2 anchor)) (Ev.dict3 (fun τ => Ev.int) (fun τ => Ev.name rfl) (fun τ => Ev.bin Ev.int (Ev.name rfl) (bin_mul (IntMulOk.of_left (by decide)))) (fun τ => Ev.name rfl) ?_) ?_ rfl
      · unfold shiftL
        rcases hx with rfl | rfl | rfl
        · exact .inl ⟨rfl, if_pos rfl⟩
        · exact .inr (.inl ⟨rfl, (if_neg (by decide)).trans (if_pos rfl)⟩)
        · exact .inr (.inr ⟨rfl, (if_neg (by decide)).trans (if_neg (by decide))⟩)
      have hml := mids_len ks adv kern ks.length
      have e : (middlesOf ks adv kern anchor).map D.int = (((mids ks adv kern ks.length).1.take ((mids ks adv kern ks.length).1.map D.int).length).map fun h => D.int (h - shiftL (mids ks adv kern ks.length).2 anchor)) := by
        rw [List.length_map, List.take_length]
        unfold middlesOf
        rw [List.map_map]; rfl
      rw [e]
      generalize (mids ks adv kern ks.length).1 = ms at *
      generalize shiftL (mids ks adv kern ks.length).2 anchor = sh at *
      refine Ex.ret (Ev.comp (ds := ms.map .int) (fun _ => σ) (fun i => (ms.take i).map fun (h : Int) => D.int (h - sh)) (EvIt.lst (Ev.name rfl)) rfl (fun i d hd => ?_) (by simp; omega) (by walk_at "clos")) RetP.rt
      obtain ⟨k, hk', rfl⟩ := map_get hd
      refine ⟨_, tgk_name, fun Zs E cl C hcl => ⟨true, E ++ σ, Ts.nil, fun _ => ⟨.int (k - sh), ?_, take_map _ hk'⟩, fun h => by cases h⟩⟩
      exact Ev.bin (Ev.nameL rfl) (Ev.nameK rfl (hcl ("shift", .free) (by decide) rfl)) bin_sub
theorem Bz.dd {j k : Nat} {a b : Int × Int} (ha : Bz j a) (hb : Bz k b) (h : j + k ≤ 200) : Bd 200 (a.2 * b.2) := (ha.d.mul hb.d).mono h
theorem c_sum (w : World) {j k : Nat} {a b : Int × Int} (ha : Bz j a) (hb : Bz k b) (h : j + k ≤ 200) (σ : Sg) : Fn w (.ref 462) 2 [F a, F b] σ σ (F (fplus a b)) :=
  c_law_sum w (k := 200) (ha.mono (by omega)) (hb.mono (by omega)) (by decide) (ha.dd hb h) σ
theorem c_tim (w : World) {j k : Nat} {a b : Int × Int} (ha : Bz j a) (hb : Bz k b) (h : j + k ≤ 200) (σ : Sg) : Fn w (.ref 469) 2 [F a, F b] σ σ (F (ftimes a b)) :=
  c_law_times w (k := 200) (ha.mono (by omega)) (hb.mono (by omega)) (by decide) (ha.dd hb h) σ
/-- a place, as the law reckons it -/
noncomputable def placeL (q scale : Int × Int) (wide begin grain : Int) (first : Int) (turn : Int × Int) : Int × Int :=
  fplus (ftimes (fplus (first, 1) (ftimes (fplus q (0 - begin, 1)) turn)) (1, grain)) (ftimes (-1, 1) (ftimes turn (ftimes scale (frac wide 2))))
noncomputable def lawMat (t : Side) (q : Int × Int) (wide : Int) (scale : Int × Int) (grain : Int) : P6 :=
  (ftimes scale (turnOf t).1, ftimes scale (turnOf t).2, ftimes scale (turnOf t).2, ftimes (-1, 1) (ftimes scale (turnOf t).1), placeL q scale wide t.begin grain t.one.1 (turnOf t).1, placeL q scale wide t.begin grain t.one.2 (turnOf t).2)
set_option maxHeartbeats 2000000 in
theorem c_law_matrix (w : World) {t : Side} {q scale : Int × Int} {wide grain : Int} (tb : SideB t) (hq : Bz 42 q) (hs : Bz 13 scale) (hw' : Bd 16 wide) (hg : Bd 5 grain) (hgp : 0 < grain) (σ : Sg) :
    Fn w (.ref 495) 3 [sideT t, F q, .int wide, F scale, .int grain] σ σ (rowD (lawMat t q wide scale grain)) := by
  have zt := Bz.turn tb
  have zg : Bz 5 ((1, grain) : Int × Int) := ⟨bdc rfl, hg, hgp⟩
  have zm : Bz 1 ((-1, 1) : Int × Int) := ⟨bdc rfl, bdc rfl, by decide⟩
  have z0 : Bz 21 ((0 - t.begin, 1) : Int × Int) := Bz.one (by have := tb.b; unfold Bd at *; omega)
  have zw : Bz 16 (frac wide 2) := Bz.half hw' (by omega)
  have zb : Bz 29 (ftimes scale (frac wide 2)) := hs.times zw (by omega)
  have zn : Bz 64 (fplus q (0 - t.begin, 1)) := hq.plus z0 (by omega)
  k_dflt (refine' Fn.def_ (es := []) ["side", "distance", "wide", "scale", "grain"] [] ?k6 ?k7 ?hb ?h1 ?h2 ?h3 ?h4 ?h5 ?h6 ?h7 rfl (by decide) ?body)
  walk_at "enter"
  case body =>
    intro c hw hr
    subst hw
    refine Ex.unpack (σ1 := σ) (d := sideT t) (Ev.name rfl) (tg_tuple (Tgs.cons tg_name (Tgs.cons tg_name (Tgs.cons tg_name (Tgs.cons tg_name Tgs.nil))))) ?_
    refine' Ex.assign2 (σ1 := σ) (d1 := F (turnOf t).1) (d2 := F (turnOf t).2) (EvL.cons (Ev.call (gl_law_low _) (EvL.cons (Ev.sub (Ev.name rfl) Ev.int (sub_tup rfl rfl)) (EvL.cons (Ev.name rfl) EvL.nil)) (c_law_low _ tb.p tb.l (by decide) _) (by omega)) (EvL.cons (Ev.call (gl_law_low _) (EvL.cons (Ev.sub (Ev.name rfl) Ev.int (sub_tup rfl rfl)) (EvL.cons (Ev.name rfl) EvL.nil)) (c_law_low _ tb.p tb.l (by decide) _) (by omega)) EvL.nil)) ?_
    generalize hco : (turnOf t).1 = co at *
    generalize hsi : (turnOf t).2 = si at *
    refine' Ex.assign (σ1 := σ) (d := F (fplus q (0 - t.begin, 1))) (Ev.call (gl_law_sum _) (EvL.cons (Ev.name rfl) (EvL.cons (d := F (0 - t.begin, 1)) (Ev.tuple (EvL.cons (Ev.bin Ev.int (Ev.name rfl) bin_sub) (EvL.cons Ev.int EvL.nil))) EvL.nil)) (c_sum _ hq z0 (by decide) _) (by omega)) ?_
    refine' Ex.assign (σ1 := σ) (d := F (ftimes scale (frac wide 2))) (Ev.call (gl_law_times _) (EvL.cons (Ev.name rfl) (EvL.cons (Ev.call (gl_law_low _) (EvL.cons (Ev.name rfl) (EvL.cons Ev.int EvL.nil)) (c_law_low _ (by decide) bd2 (by decide) _) (by omega)) EvL.nil)) (c_tim _ hs zw (by decide) _) (by omega)) ?_
    refine Ex.assignOwn (σ1 := σ) (ds := []) EvL.nil fun l => ?_
    have hpl : ∀ first turn, placeL q scale wide t.begin grain first turn = fplus (ftimes (fplus (first, 1) (ftimes (fplus q (0 - t.begin, 1)) turn)) (1, grain)) (ftimes (-1, 1) (ftimes turn (ftimes scale (frac wide 2)))) := fun _ _ => rfl
    generalize hgone : fplus q (0 - t.begin, 1) = gone at *
    generalize hback : ftimes scale (frac wide 2) = back at *
    refine Ex.for_ (ds := [.tup [.int t.one.1, F co], .tup [.int t.one.2, F si]]) (fun _ => σ) (fun i => [("place", .own l (([F (placeL q scale wide t.begin grain t.one.1 co), F (placeL q scale wide t.begin grain t.one.2 si)] : List D).take i)), ("gone", .val (F gone)), ("back", .val (F back)), ("grain", .val (.int grain)), ("scale", .val (F scale)), ("cosine", .val (F co)), ("sine", .val (F si))]) none
      (EvIt.lst (Ev.list (EvL.cons (Ev.tuple (EvL.cons (Ev.sub (Ev.name rfl) Ev.int (sub_tup rfl rfl)) (EvL.cons (Ev.name rfl) EvL.nil))) (EvL.cons (Ev.tuple (EvL.cons (Ev.sub (Ev.name rfl) Ev.int (sub_tup rfl rfl)) (EvL.cons (Ev.name rfl) EvL.nil))) EvL.nil)))) (by walk_at "mem") (fun i d hd => ?_) ?_ fun b e => by cases e
    · have hcase : ∃ first turn, d = .tup [.int first, F turn] ∧ Bd 20 first ∧ Bz 20 turn ∧ ([F (placeL q scale wide t.begin grain t.one.1 co), F (placeL q scale wide t.begin grain t.one.2 si)] : List D).take (i + 1) = ([F (placeL q scale wide t.begin grain t.one.1 co), F (placeL q scale wide t.begin grain t.one.2 si)] : List D).take i ++ [F (placeL q scale wide t.begin grain first turn)] ∧ i ≤ 1 := by
        match i, hd with
        | 0, hd => cases hd; exact ⟨_, _, rfl, tb.o1, zt.1, rfl, by omega⟩
        | 1, hd => cases hd; exact ⟨_, _, rfl, tb.o2, zt.2, rfl, by omega⟩
      obtain ⟨first, turn, rfl, hf, htu, et, hi1⟩ := hcase
      rw [et]
      refine ⟨_, tg_two, fun Zs E => ?_⟩
      have z1 : Bz 84 (ftimes gone turn) := zn.times htu (by omega)
      have z2 : Bz 105 (fplus (first, 1) (ftimes gone turn)) := (Bz.one hf).plus z1 (by omega)
      have z3 : Bz 110 (ftimes (fplus (first, 1) (ftimes gone turn)) (1, grain)) := z2.times zg (by omega)
      have z4 : Bz 49 (ftimes turn back) := htu.times zb (by omega)
      have z5 : Bz 50 (ftimes (-1, 1) (ftimes turn back)) := zm.times z4 (by omega)
      refine' Ex.assign (σ1 := E ++ σ) (d := F (ftimes (fplus (first, 1) (ftimes gone turn)) (1, grain))) (Ev.call (gl_law_times _) (EvL.cons (Ev.call (gl_law_sum _) (EvL.cons (d := F (first, 1)) (Ev.tuple (EvL.cons (Ev.name rfl) (EvL.cons Ev.int EvL.nil))) (EvL.cons (Ev.call (gl_law_times _) (EvL.cons (Ev.name rfl) (EvL.cons (Ev.name rfl) EvL.nil)) (c_tim _ zn htu (by decide) _) (by show 2 ≤ c.room; omega)) EvL.nil)) (c_sum _ (Bz.one hf) z1 (by decide) _) (by show 2 ≤ c.room; omega)) (EvL.cons (d := F (1, grain)) (Ev.tuple (EvL.cons Ev.int (EvL.cons (Ev.name rfl) EvL.nil))) EvL.nil)) (c_tim _ z2 zg (by decide) _) (by show 2 ≤ c.room; omega)) ?_
      refine Ex.append (σ1 := E ++ σ) (d := F (placeL q scale wide t.begin grain first turn)) rfl ?_ (Ex.nil (ForP.next rfl (by walk_at "mem"))) (by rw [List.length_take]; simp; omega)
      rw [hpl first turn]
      exact Ev.call (gl_law_sum _) (EvL.cons (Ev.name rfl) (EvL.cons (Ev.call (gl_law_times _) (EvL.cons (d := F (-1, 1)) (Ev.tuple (EvL.cons (Ev.neg Ev.int) (EvL.cons Ev.int EvL.nil))) (EvL.cons (Ev.call (gl_law_times _) (EvL.cons (Ev.name rfl) (EvL.cons (Ev.name rfl) EvL.nil)) (c_tim _ htu zb (by decide) _) (by show 2 ≤ c.room; omega)) EvL.nil)) (c_tim _ zm z4 (by decide) _) (by show 2 ≤ c.room; omega)) EvL.nil)) (c_sum _ z3 z5 (by decide) _) (by show 2 ≤ c.room; omega)
    · refine Ex.freeze (x := "place") rfl ?_
      have za : Bz 33 (ftimes scale co) := hs.times zt.1 (by omega)
      refine' Ex.assign2 (σ1 := σ) (d1 := F (ftimes scale co)) (d2 := F (ftimes scale si)) (EvL.cons (Ev.call (gl_law_times _) (EvL.cons (Ev.name rfl) (EvL.cons (Ev.name rfl) EvL.nil)) (c_tim _ hs zt.1 (by decide) _) (by omega)) (EvL.cons (Ev.call (gl_law_times _) (EvL.cons (Ev.name rfl) (EvL.cons (Ev.name rfl) EvL.nil)) (c_tim _ hs zt.2 (by decide) _) (by omega)) EvL.nil)) ?_
      have er : lawMat t q wide scale grain = (ftimes scale co, ftimes scale si, ftimes scale si, ftimes (-1, 1) (ftimes scale co), placeL q scale wide t.begin grain t.one.1 co, placeL q scale wide t.begin grain t.one.2 si) := by unfold lawMat; rw [hco, hsi]
      rw [er]
      refine' Ex.ret (σ1 := σ) (Ev.tuple (EvL.cons (Ev.name rfl) (EvL.cons (Ev.name rfl) (EvL.cons (Ev.name rfl) (EvL.cons (Ev.call (gl_law_times _) (EvL.cons (d := F (-1, 1)) (Ev.tuple (EvL.cons (Ev.neg Ev.int) (EvL.cons Ev.int EvL.nil))) (EvL.cons (Ev.name rfl) EvL.nil)) (c_tim _ zm za (by decide) _) (by omega)) (EvL.cons (Ev.sub (Ev.name rfl) Ev.int (sub_lst (by decide) (by decide) rfl)) (EvL.cons (Ev.sub (Ev.name rfl) Ev.int (sub_lst (by decide) (by decide) rfl)) EvL.nil))))))) RetP.rt
/-- where a letter's middle lies, as the law reckons it -/
noncomputable def dueQ (begin scale : Int × Int) (grain half : Int) : Int × Int := ftimes (fplus begin (ftimes scale (frac half 2))) (grain, 1)
noncomputable def holdL (q : Int × Int) (t : Side) : Bool := decide (t.begin * q.2 ≤ q.1) && decide (q.1 ≤ (t.begin + t.len) * q.2)
noncomputable def dueOf (ts : List Side) (adv : List Int) (begin scale : Int × Int) (grain : Int) (p : Nat × Int) : Option (Int × P6) :=
  ((ts.filter (holdL (dueQ begin scale grain p.2))).head?).map fun t => ((p.1 : Int) - 96, lawMat t (dueQ begin scale grain p.2) (adv.getD (p.1 - 97) 0) scale grain)
noncomputable abbrev toldT (p : Int × P6) : D := .tup [.int p.1, rowD p.2]
noncomputable def distB (begin scale : Int × Int) (grain : Int) (ms : List Int) : Nat → B
  | 0 => .unset
  | i + 1 => .val (F (dueQ begin scale grain (ms.getD i 0)))
theorem zipS_at {ks : List Nat} {ms : List Int} {i : Nat} {d : D} (h : (((ks.zip (ms.map D.int)).map fun q => [D.str ⟨#[q.1]⟩, q.2]).map D.tup)[i]? = some d) :
    ∃ k m, ks[i]? = some k ∧ ms[i]? = some m ∧ (ks.zip ms)[i]? = some (k, m) ∧ d = .tup [.str ⟨#[k]⟩, .int m] := by
  rw [List.getElem?_map, List.getElem?_map, Option.map_map, Option.map_eq_some_iff] at h
  obtain ⟨q, hq, rfl⟩ := h
  obtain ⟨h2, h3⟩ := List.getElem?_zip_eq_some.mp hq
  rw [List.getElem?_map, Option.map_eq_some_iff] at h3
  obtain ⟨m, hm, h4⟩ := h3
  refine ⟨q.1, m, h2, hm, List.getElem?_zip_eq_some.mpr ⟨h2, hm⟩, ?_⟩
  show D.tup [_, q.2] = _
  rw [← h4]
theorem filter_take {α : Type} {l : List α} {i : Nat} {x : α} (f : α → Bool) (h : l[i]? = some x) : (l.take (i + 1)).filter f = (l.take i).filter f ++ (if f x then [x] else []) := by
  rw [List.take_add_one, h, List.filter_append]
  cases q : f x <;> simp [q]
set_option maxHeartbeats 2000000 in
theorem c_law_due (w : World) {ks : List Nat} (ht : Abc ks) {ts : List Side} {whole grain : Int} {ms adv : List Int} {begin scale : Int × Int} (hml : ms.length = ks.length) (ha : adv.length = 3) (hav : ∀ a ∈ adv, Bd 16 a) (hmv : ∀ m ∈ ms, Bd 16 m)
    (htb : ∀ t ∈ ts, SideB t) (htl : ts.length ≤ 100) (hst : Bz 6 begin) (hsc : Bz 13 scale) (hg : Bd 5 grain) (hgp : 0 < grain) (σ : Sg) :
    Fn w (.ref 500) 4 [.lst (ts.map sideT), .int whole, .lst (ms.map .int), .str (txt ks), .lst (adv.map .int), F begin, F scale, .int grain] σ σ (.lst (((ks.zip ms).filterMap (dueOf ts adv begin scale grain)).map toldT)) := by
  have hn := ht.len
  k_dflt (refine' Fn.def_ (es := []) ["sides", "whole_way", "middles", "text", "advances", "begin", "scale", "grain"] ["distance"] ?k6 ?k7 ?hb ?h1 ?h2 ?h3 ?h4 ?h5 ?h6 ?h7 rfl (by decide) ?body)
  walk_at "enter"
  case body =>
    intro c hw hr
    subst hw
    refine Ex.assignOwn (σ1 := σ) (ds := []) EvL.nil fun l => ?_
    have hzl : (ks.zip ms).length = ks.length := by simp [hml]
    refine Ex.for_ (ds := ((ks.zip (ms.map D.int)).map fun q => [D.str ⟨#[q.1]⟩, q.2]).map D.tup) (fun _ => σ) (fun i => [("found", .own l ((((ks.zip ms).take i).filterMap (dueOf ts adv begin scale grain)).map toldT)), ("distance", distB begin scale grain ms i), ("sides", .val (.lst (ts.map sideT))), ("advances", .val (.lst (adv.map .int))), ("begin", .val (F begin)), ("scale", .val (F scale)), ("grain", .val (.int grain))]) none
      (EvIt.zipS (bt_zip _) ht.ascii (by simp [hml]) (EvL.cons (Ev.name rfl) (EvL.cons (Ev.name rfl) EvL.nil))) (by walk_at "mem") (fun i d hd => ?_) ?_ fun b e => by cases e
    · obtain ⟨k, m, hk, hm, hz, rfl⟩ := zipS_at hd
      have hkk := ht.abc k (List.mem_of_getElem? hk)
      have hmm := hmv m (List.mem_of_getElem? hm)
      have hi : i < ks.length := (List.getElem?_eq_some_iff.mp hk).1
      refine ⟨_, tg_two, fun Zs E => ?_⟩
      have ed : distB begin scale grain ms (i + 1) = .val (F (dueQ begin scale grain m)) := by
        show B.val (F (dueQ begin scale grain (ms.getD i 0))) = _
        rw [List.getD, hm]; rfl
      rw [ed, filterMap_take _ hz, List.map_append]
      have hfl : ((((ks.zip ms).take i).filterMap (dueOf ts adv begin scale grain)).map toldT).length ≤ 100 := by
        rw [List.length_map]
        have := List.length_filterMap_le (dueOf ts adv begin scale grain) ((ks.zip ms).take i)
        have : ((ks.zip ms).take i).length ≤ ks.length := by rw [List.length_take]; omega
        omega
      have zh : Bz 16 (frac m 2) := Bz.half hmm (by omega)
      have z1 : Bz 29 (ftimes scale (frac m 2)) := hsc.times zh (by omega)
      have z2 : Bz 36 (fplus begin (ftimes scale (frac m 2))) := hst.plus z1 (by omega)
      have zq : Bz 41 (dueQ begin scale grain m) := z2.times (Bz.one hg) (by omega)
      refine' Ex.assignC (σ1 := E ++ σ) (d := F (dueQ begin scale grain m)) (Ev.call (gl_law_times _) (EvL.cons (Ev.call (gl_law_sum _) (EvL.cons (Ev.name rfl) (EvL.cons (Ev.call (gl_law_times _) (EvL.cons (Ev.name rfl) (EvL.cons (Ev.call (gl_law_low _) (EvL.cons (Ev.name rfl) (EvL.cons Ev.int EvL.nil)) (c_law_low _ (by decide) bd2 (by decide) _) (by show 1 ≤ c.room; omega)) EvL.nil)) (c_tim _ hsc zh (by decide) _) (by show 2 ≤ c.room; omega)) EvL.nil)) (c_sum _ hst z1 (by decide) _) (by show 2 ≤ c.room; omega)) (EvL.cons (d := F (grain, 1)) (Ev.tuple (EvL.cons (Ev.name rfl) (EvL.cons Ev.int EvL.nil))) EvL.nil)) (c_tim _ z2 (Bz.one hg) (by decide) _) (by show 2 ≤ c.room; omega)) ?_ (b := distB begin scale grain ms i) rfl rfl (by intro d; cases i <;> (intro h; cases h))
      have edue : dueOf ts adv begin scale grain (k, m) = ((ts.filter (holdL (dueQ begin scale grain m))).head?).map fun t => ((k : Int) - 96, lawMat t (dueQ begin scale grain m) (adv.getD (k - 97) 0) scale grain) := rfl
      rw [edue]
      generalize dueQ begin scale grain m = q at *
      refine Ex.comp (ds := ts.map sideT) (fun _ => E ++ σ) (fun i => ((ts.take i).filter (holdL q)).map sideT) (EvIt.lst (Ev.name rfl)) rfl (fun j d hd => ?_) ?_ (.inl rfl) (by simp; omega) (by walk_at "clos")
      · obtain ⟨t, ht', rfl⟩ := map_get hd
        have tb := htb t (List.mem_of_getElem? ht')
        have b1 : Bd 42 t.begin := tb.b.mono (by decide)
        have b2 : Bd 42 (t.begin + t.len) := tb.e.mono (by decide)
        have b3 : Bd 42 q.2 := zq.d.mono (by decide)
        refine ⟨_, tgk_name, fun Zs' E' cl C hcl => ⟨holdL q t, E' ++ (E ++ σ), Ts.one ?_, fun h => ⟨sideT t, Ev.nameL rfl, ?_⟩, fun h => ⟨rfl, ?_⟩⟩⟩
        · have nq := hcl ("distance", .free) (by decide) rfl
          exact Tv.chain (Ev.bin (Ev.sub (Ev.nameL rfl) Ev.int (sub_tup rfl rfl)) (Ev.sub (Ev.nameK rfl nq) Ev.int (sub_tup rfl rfl)) (bin_mul (b1.mulOk b3 (by decide)))) (Ev.sub (Ev.nameK rfl nq) Ev.int (sub_tup rfl rfl)) cmp_le
            (fun _ => Ev.bin (Ev.bin (Ev.sub (Ev.nameL rfl) Ev.int (sub_tup rfl rfl)) (Ev.sub (Ev.nameL rfl) Ev.int (sub_tup rfl rfl)) bin_add) (Ev.sub (Ev.nameK rfl nq) Ev.int (sub_tup rfl rfl)) (bin_mul (b2.mulOk b3 (by decide)))) fun _ => cmp_le
        · show ((ts.take (j + 1)).filter (holdL q)).map sideT = ((ts.take j).filter (holdL q)).map sideT ++ [sideT t]
          rw [filter_take _ ht', h, List.map_append]; rfl
        · show ((ts.take (j + 1)).filter (holdL q)).map sideT = ((ts.take j).filter (holdL q)).map sideT
          rw [filter_take _ ht', h, if_neg (by decide), List.append_nil]
      · rw [List.length_map, List.take_length]
        cases hf : ts.filter (holdL q) with
        | nil =>
          refine Ex.if_ (σ1 := E ++ σ) (b := !(([] : List Side).map sideT).isEmpty) (Tv.cmp (Ev.name rfl) (Ev.list EvL.nil) cmp_neNil) (fun h => by cases h) fun _ => Ex.nil (NextP.then_ (Ex.nil (ForP.next rfl ?_)))
          rw [List.head?_nil, Option.map_none, Option.toList_none, List.map_nil, List.append_nil]
          walk_at "mem"
        | cons t r =>
          have htm : t ∈ ts := (List.mem_filter.mp (show t ∈ ts.filter (holdL q) by rw [hf]; exact .head _)).1
          have tb := htb t htm
          have hak : k - 97 < adv.length := by omega
          have haw : Bd 16 (adv.getD (k - 97) 0) := hav _ (by rw [List.getD, List.getElem?_eq_getElem hak]; exact List.getElem_mem hak)
          refine Ex.if_ (σ1 := E ++ σ) (b := !((t :: r).map sideT).isEmpty) (Tv.cmp (Ev.name rfl) (Ev.list EvL.nil) cmp_neNil) (fun _ => ?_) fun h => by cases h
          refine Ex.assign (σ1 := E ++ σ) (d := .int (adv.getD (k - 97) 0)) (Ev.sub (Ev.name rfl) (Ev.bin (Ev.bcall (bt_ord _) (EvL.cons (Ev.name rfl) EvL.nil) bf_ord) Ev.int bin_sub) (sub_lst (by omega) (by omega) ?_)) ?_
          · rw [show ((k : Int) - 97).toNat = k - 97 by omega]
            exact getD_some (by omega)
          refine Ex.append (σ1 := E ++ σ) (d := toldT ((k : Int) - 96, lawMat t q (adv.getD (k - 97) 0) scale grain)) rfl ?_ (Ex.nil (NextP.then_ (Ex.nil (ForP.next rfl (by walk_at "mem"))))) (by omega)
          refine Ev.tuple (EvL.cons (Ev.bin (Ev.bcall (bt_ord _) (EvL.cons (Ev.name rfl) EvL.nil) bf_ord) Ev.int bin_sub) (EvL.cons ?_ EvL.nil))
          exact Ev.call (gl_law_matrix _) (EvL.cons (d := sideT t) (Ev.sub (Ev.name rfl) Ev.int (sub_lst (by decide) (by decide) rfl)) (EvL.cons (Ev.nameC rfl) (EvL.cons (Ev.name rfl) (EvL.cons (Ev.name rfl) (EvL.cons (Ev.name rfl) EvL.nil))))) (c_law_matrix _ tb (zq.mono (by decide)) hsc haw hg hgp _) (by show 3 ≤ c.room; omega)
    · refine Ex.freeze (x := "found") rfl ?_
      have el : (((ks.zip (ms.map D.int)).map fun q => [D.str ⟨#[q.1]⟩, q.2]).map D.tup).length = (ks.zip ms).length := by simp
      rw [el, List.take_length]
      exact Ex.ret (Ev.name rfl) RetP.rt
/-- a plain tree that can be compared, at most n deep -/
structure Sh (n : Nat) (d : D) : Prop where
  ok : d.pok = true
  lay : d.pd.canLay0 = true
  dep : d.pd.depth ≤ n
theorem Sh.all {n : Nat} : ∀ {ds : List D}, (∀ d ∈ ds, Sh n d) → poks ds = true ∧ PyData.canLayAll0 (pds ds) = true ∧ PyData.depthAll (pds ds) ≤ n
  | [], _ => by simp [poks, pds, PyData.canLayAll0, PyData.depthAll]
  | d :: ds, h => by
    have h1 := h d (.head _)
    have h2 := Sh.all fun e he => h e (.tail _ he)
    simp only [poks, pds, PyData.canLayAll0, PyData.depthAll, h1.ok, h1.lay, h2.1, h2.2.1, Bool.and_self, true_and]
    have a1 := h1.dep
    have a2 := h2.2.2
    omega
theorem Sh.lst {n : Nat} {ds : List D} (h : ∀ d ∈ ds, Sh n d) : Sh (n + 1) (.lst ds) := by
  have q := Sh.all h
  exact ⟨by simpa [D.pok] using q.1, by simpa [D.pd, PyData.canLay0] using q.2.1, by simpa [D.pd, PyData.depth] using q.2.2⟩
theorem Sh.tup {n : Nat} {ds : List D} (h : ∀ d ∈ ds, Sh n d) : Sh (n + 1) (.tup ds) := by
  have q := Sh.all h
  exact ⟨by simpa [D.pok] using q.1, by simpa [D.pd, PyData.canLay0] using q.2.1, by simpa [D.pd, PyData.depth] using q.2.2⟩
theorem Sh.int {n : Nat} {i : Int} : Sh n (.int i) := ⟨rfl, by simp [D.pd, PyData.canLay0], by simp [D.pd, PyData.depth]⟩
theorem Sh.str {n : Nat} {x : Str} (h : PyData.strOk x = true) : Sh n (.str x) := ⟨rfl, by simpa [D.pd, PyData.canLay0] using h, by simp [D.pd, PyData.depth]⟩
theorem Sh.shaped {n : Nat} {d : D} (h : Sh n d) (hn : n ≤ 64) : SeqAt.shaped d.pd = true := by
  have := h.dep
  unfold SeqAt.shaped
  rw [h.lay, Bool.true_and]
  exact decide_eq_true (by omega)
theorem Sh.pair {n : Nat} {a b : D} (ha : Sh n a) (hb : Sh n b) : Sh (n + 1) (.tup [a, b]) := Sh.tup fun d hd => by
  rcases List.mem_cons.mp hd with rfl | hd
  · exact ha
  · cases List.mem_singleton.mp hd; exact hb
theorem Sh.F (p : Int × Int) : Sh 1 (F p) := Sh.pair .int .int
theorem Sh.mono {m n : Nat} {d : D} (h : Sh m d) (hn : m ≤ n) : Sh n d := ⟨h.ok, h.lay, Nat.le_trans h.dep hn⟩
theorem Sh.sideT (t : Side) : Sh 2 (sideT t) := Sh.tup fun d hd => by
  simp only [List.mem_cons, List.not_mem_nil, or_false] at hd
  rcases hd with rfl | rfl | rfl | rfl
  · exact Sh.F _
  · exact Sh.F _
  · exact .int
  · exact .int
theorem Sh.rowD (m : P6) : Sh 2 (rowD m) := Sh.tup fun d hd => by
  simp only [List.mem_cons, List.not_mem_nil, or_false] at hd
  rcases hd with rfl | rfl | rfl | rfl | rfl | rfl <;> exact Sh.F _
theorem Sh.segs (ps : List (Int × Int)) : ∀ d ∈ segsOf ps, Sh 3 d := by
  have hs : ∀ p, Sh 2 (spD p) := fun p => Sh.pair (Sh.F _) (Sh.F _)
  cases ps with
  | nil => intro d hd; cases hd
  | cons p ps =>
    intro d hd
    unfold segsOf at hd
    rcases List.mem_append.mp hd with hd | hd
    · rcases List.mem_cons.mp hd with rfl | hd
      · exact Sh.pair (Sh.str (by decide +kernel)) (hs p)
      · obtain ⟨q, _, rfl⟩ := List.mem_map.mp hd
        exact Sh.pair (Sh.str (by decide +kernel)) (hs q)
    · cases List.mem_singleton.mp hd
      exact Sh.tup fun d hd => by cases List.mem_singleton.mp hd; exact Sh.str (by decide +kernel)
theorem lettersOf_len (ks : List Nat) (adv : List Int) (kern : Int) : (lettersOf ks adv kern).1.length = ks.length := by
  unfold lettersOf; simp
set_option maxHeartbeats 4000000 in
theorem c_law_right (w : World) {k1 k2 k3 k4 : Lam} (hk : LamOk k1 k2 k3 k4)
    (hfo : ∀ (w : World) (adv : List Int) (kern : Int) (es : List (Int × Int)) (σ1 σ2 : Sg), (es = [] ∨ es = lamPos) → Fn w (.ref 483) 3 [.lst (adv.map .int), .int kern] (σ1 ++ (478, TabP lamQ es) :: σ2) (σ1 ++ (478, TabP lamQ lamPos) :: σ2) (fontD k1 k2 k3 k4 adv kern))
    {cD : D} {ts : List Side} {whole : Int} {ks : List Nat} {adv : List Int} {kern : Int} {begin size : Int × Int} {grain : Int} {anchor : Str} {es : List (Int × Int)} (hes : es = [] ∨ es = lamPos)
    (ht : Abc ks) (ha : adv.length = 3) (hx : anchor = "start" ∨ anchor = "middle" ∨ anchor = "end") (hs : ∀ σ, Fn w (.ref 391) 5 [cD] σ σ (.lst (ts.map sideD))) (hwh : (ts.getLast?.map fun t => t.begin + t.len).getD 0 = whole)
    (hav : ∀ a ∈ adv, Bd 16 a) (hmv : ∀ m ∈ middlesOf ks adv kern anchor, Bd 16 m) (htb : ∀ t ∈ ts, SideB t) (htl : ts.length ≤ 100) (hst : Bz 6 begin) (hsz : Bz 3 size) (hg : Bd 5 grain) (hgp : 0 < grain)
    (hlen : Bd 17 (lettersOf ks adv kern).2) (hlb : ∀ l ∈ (lettersOf ks adv kern).1, LetB l)
    (heq : (lettersOf ks adv kern).1.filterMap (toldOf ts (fplus begin (ftimes (fdivd size (1000, 1)) (shiftOf (lettersOf ks adv kern).2 anchor))) (fdivd size (1000, 1)) grain) = (ks.zip (middlesOf ks adv kern anchor)).filterMap (dueOf ts adv begin (frac size.1 (size.2 * 1000)) grain))
    (σ1 σ2 : Sg) :
    Fn w (.ref 505) 9 [cD, .lst (ts.map sideT), .int whole, .tup [.str (txt ks), .lst (adv.map .int), .int kern, F begin, F size, .int grain, .str anchor]] (σ1 ++ (478, TabP lamQ es) :: σ2) (σ1 ++ (478, TabP lamQ lamPos) :: σ2) (.bool true) := by
  have hn := ht.len
  have b1000 : Bd 10 (1000 : Int) := bdc rfl
  have hb2 : Bd 13 (size.2 * 1000) := hsz.d.mul b1000
  have hp2 : 0 < size.2 * 1000 := by have := hsz.p; omega
  have zsc : Bz 13 (frac size.1 (size.2 * 1000)) := Bz.frac (j := 3) hsz.n hb2 hp2 (by decide)
  have hml : (middlesOf ks adv kern anchor).length = ks.length := by unfold middlesOf; rw [List.length_map, mids_len]
  have hll := lettersOf_len ks adv kern
  k_dflt (refine' Fn.def_ (es := []) ["contour", "sides", "whole_way", "told"] ["font"] ?k6 ?k7 ?hb ?h1 ?h2 ?h3 ?h4 ?h5 ?h6 ?h7 ?hs ?hn ?body)
  walk_at "enter"
  case hs => exact sigma_fst
  case hn => decide
  case body =>
    intro c hw hr
    subst hw
    have hSub : ∀ (E : Sg) (es : List (Int × Int)), E ++ (σ1 ++ (478, TabP lamQ es) :: σ2) = (E ++ σ1) ++ (478, TabP lamQ es) :: σ2 := fun E es => (List.append_assoc _ _ _).symm
    refine Ex.unpack (σ1 := σ1 ++ (478, TabP lamQ es) :: σ2) (Ev.name rfl) (tg_tuple (Tgs.cons tg_name (Tgs.cons tg_name (Tgs.cons tg_name (Tgs.cons tg_name (Tgs.cons tg_name (Tgs.cons tg_name (Tgs.cons tg_name Tgs.nil)))))))) ?_
    refine' Ex.unpack (σ1 := σ1 ++ (478, TabP lamQ lamPos) :: σ2) (d := .tup [fontD k1 k2 k3 k4 adv kern, F (frac size.1 (size.2 * 1000))]) (Ev.tuple (EvL.cons (Ev.call (gl_law_font _) (EvL.cons (Ev.name rfl) (EvL.cons (Ev.name rfl) EvL.nil)) (hfo _ adv kern es σ1 σ2 hes) (by omega))
      (EvL.cons (Ev.call (gl_law_low _) (EvL.cons (Ev.sub (Ev.name rfl) Ev.int (sub_tup rfl rfl)) (EvL.cons (Ev.bin (Ev.sub (Ev.name rfl) Ev.int (sub_tup rfl rfl)) Ev.int (bin_mul (IntMulOk.of_right (by decide)))) EvL.nil)) (c_law_low _ hp2 hb2 (by decide) _) (by omega)) EvL.nil))) (tg_tuple (Tgs.cons (tg_cell (b := .unset) rfl) (Tgs.cons tg_name Tgs.nil))) ?_
    generalize hσ : σ1 ++ (478, TabP lamQ lamPos) :: σ2 = σ at *
    refine Ex.assign (σ1 := σ) (d := .lst (ts.map sideD)) (Ev.call (gl_path_sides _) (EvL.cons (Ev.name rfl) EvL.nil) (hs _) (by omega)) ?_
    have e1 : ts.map sideT = (ts.take (ts.map sideD).length).map sideT := by rw [List.length_map, List.take_length]
    have sh1 : Sh 3 (.lst (ts.map sideT)) := Sh.lst fun d hd => by obtain ⟨t, _, rfl⟩ := List.mem_map.mp hd; exact Sh.sideT t
    refine Ex.if_ (σ1 := σ) (b := false || false) (Tv.or2 (σ1 := σ) (p := false) (q := false) (Tv.cmp (d1 := .lst (ts.map sideT)) ?_ (Ev.name rfl) (cmp_neSame sh1.ok (sh1.shaped (by decide)))) fun _ => Tv.cmp (d1 := .int whole) ?_ (Ev.name rfl) ?_) (fun h => by cases h) fun _ => Ex.nil (NextP.then_ ?_)
    · rw [e1]
      refine Ev.comp (ds := ts.map sideD) (fun _ => σ) (fun i => (ts.take i).map sideT) (EvIt.lst (Ev.name rfl)) rfl (fun i d hd => ?_) (by simp; omega) (by walk_at "clos")
      obtain ⟨t, ht', rfl⟩ := map_get hd
      refine ⟨_, tgk_name, fun Zs E cl C hcl => ⟨true, E ++ σ, Ts.nil, fun _ => ⟨sideT t, ?_, take_map _ ht'⟩, fun h => by cases h⟩⟩
      exact Ev.tuple (EvL.cons (Ev.attr (Ev.nameL rfl) (at_one _)) (EvL.cons (Ev.attr (Ev.nameL rfl) (at_way _)) (EvL.cons (Ev.attr (Ev.nameL rfl) (at_length _)) (EvL.cons (Ev.attr (Ev.nameL rfl) (at_begin _)) EvL.nil))))
    · rw [← hwh]
      exact Ev.call (gl_path_length _) (EvL.cons (Ev.name rfl) EvL.nil) (c_path_length _ (by omega) _) (by omega)
    · have := cmp_ne (w := c.w) (a := whole) (b := whole)
      rwa [bne_self_eq_false] at this
    have hpl := c_path_letters c.w hk (cD := cD) (start := begin) (size := size) (grain := grain) σ (c_letters_of c.w hk ht ha (kern := kern) σ) (hs σ) hst hsz hg hgp hx hlen hlb htb (by omega)
    rw [heq] at hpl
    have hfl : ((ks.zip (middlesOf ks adv kern anchor)).filterMap (dueOf ts adv begin (frac size.1 (size.2 * 1000)) grain)).length ≤ 3 := by
      have := List.length_filterMap_le (dueOf ts adv begin (frac size.1 (size.2 * 1000)) grain) (ks.zip (middlesOf ks adv kern anchor))
      have : (ks.zip (middlesOf ks adv kern anchor)).length ≤ ks.length := by simp; omega
      omega
    have hdu := c_law_due c.w ht (ts := ts) (whole := whole) hml ha hav hmv htb htl hst zsc hg hgp σ
    generalize (ks.zip (middlesOf ks adv kern anchor)).filterMap (dueOf ts adv begin (frac size.1 (size.2 * 1000)) grain) = fs at *
    refine Ex.assign (σ1 := σ) (d := .lst (fs.map toldD)) (Ev.call (gl_path_letters _) (EvL.cons (Ev.nameC rfl) (EvL.cons Ev.int (EvL.cons (Ev.name rfl) (EvL.cons (Ev.name rfl) (EvL.cons (Ev.name rfl) (EvL.cons (Ev.name rfl) (EvL.cons (Ev.name rfl) (EvL.cons (Ev.name rfl) EvL.nil)))))))) hpl (by omega)) ?_
    refine Ex.assign (σ1 := σ) (d := .lst (fs.map toldT)) (Ev.call (gl_law_due _) (EvL.cons (Ev.name rfl) (EvL.cons (Ev.name rfl) (EvL.cons (Ev.call (gl_law_middles _) (EvL.cons (Ev.name rfl) (EvL.cons (Ev.name rfl) (EvL.cons (Ev.name rfl) (EvL.cons (Ev.name rfl) EvL.nil)))) (c_law_middles _ ht ha hx _) (by omega)) (EvL.cons (Ev.name rfl) (EvL.cons (Ev.name rfl) (EvL.cons (Ev.name rfl) (EvL.cons (Ev.name rfl) (EvL.cons (Ev.name rfl) EvL.nil)))))))) hdu (by omega)) ?_
    have sh2 : Sh 3 (.lst (fs.map fun (p : Int × P6) => rowD p.2)) := Sh.lst fun d hd => by obtain ⟨t, _, rfl⟩ := List.mem_map.mp hd; exact Sh.rowD _
    have sh3 : Sh 5 (.lst (fs.map fun (p : Int × P6) => D.lst (segsOf (gpts p.1)))) := Sh.lst fun d hd => by obtain ⟨t, _, rfl⟩ := List.mem_map.mp hd; exact Sh.lst (Sh.segs _)
    have el : (fs.map toldD).length = fs.length := List.length_map _
    have el2 : (fs.map toldT).length = fs.length := List.length_map _
    have ta : fs.take fs.length = fs := List.take_length
    refine Ex.if_ (σ1 := σ) (b := false) (Tv.cmp (σ1 := σ) (d1 := .lst (fs.map fun (p : Int × P6) => rowD p.2)) (d2 := .lst (fs.map fun (p : Int × P6) => rowD p.2)) ?_ ?_ (cmp_neSame sh2.ok (sh2.shaped (by decide)))) (fun h => by cases h) fun _ => Ex.nil (NextP.then_ ?_)
    · have e : (fs.map fun (p : Int × P6) => rowD p.2) = (fs.take (fs.map toldD).length).map fun (p : Int × P6) => rowD p.2 := by rw [el, ta]
      rw [e]
      refine Ev.comp (ds := fs.map toldD) (fun _ => σ) (fun i => (fs.take i).map fun (p : Int × P6) => rowD p.2) (EvIt.lst (Ev.name rfl)) rfl (fun i d hd => ?_) (by omega) (by walk_at "clos")
      obtain ⟨p, hp, rfl⟩ := map_get hd
      refine ⟨_, tgk_two, fun Zs E cl C hcl => ⟨true, E ++ σ, Ts.nil, fun _ => ⟨rowD p.2, ?_, take_map _ hp⟩, fun h => by cases h⟩⟩
      exact Ev.meth0 (Ev.nameL rfl) (me_row _) (c_row _ _ _) (by show 1 ≤ c.room; omega)
    · have e : (fs.map fun (p : Int × P6) => rowD p.2) = (fs.take (fs.map toldT).length).map fun (p : Int × P6) => rowD p.2 := by rw [el2, ta]
      rw [e]
      refine Ev.comp (ds := fs.map toldT) (fun _ => σ) (fun i => (fs.take i).map fun (p : Int × P6) => rowD p.2) (EvIt.lst (Ev.name rfl)) rfl (fun i d hd => ?_) (by omega) (by walk_at "clos")
      obtain ⟨p, hp, rfl⟩ := map_get hd
      exact ⟨_, tgk_two, fun Zs E cl C hcl => ⟨true, E ++ σ, Ts.nil, fun _ => ⟨rowD p.2, Ev.nameL rfl, take_map _ hp⟩, fun h => by cases h⟩⟩
    refine Ex.ret (σ1 := σ) (Ev.cmp (σ1 := σ) (d1 := .lst (fs.map fun (p : Int × P6) => D.lst (segsOf (gpts p.1)))) (d2 := .lst (fs.map fun (p : Int × P6) => D.lst (segsOf (gpts p.1)))) ?_ ?_ (cmp_eqSame sh3.ok (sh3.shaped (by decide)))) RetP.rt
    · have e : (fs.map fun (p : Int × P6) => D.lst (segsOf (gpts p.1))) = (fs.take (fs.map toldD).length).map fun (p : Int × P6) => D.lst (segsOf (gpts p.1)) := by rw [el, ta]
      rw [e]
      refine Ev.comp (ds := fs.map toldD) (fun _ => σ) (fun i => (fs.take i).map fun (p : Int × P6) => D.lst (segsOf (gpts p.1))) (EvIt.lst (Ev.name rfl)) rfl (fun i d hd => ?_) (by omega) (by walk_at "clos")
      obtain ⟨p, hp, rfl⟩ := map_get hd
      exact ⟨_, tgk_two, fun Zs E cl C hcl => ⟨true, E ++ σ, Ts.nil, fun _ => ⟨.lst (segsOf (gpts p.1)), Ev.nameL rfl, take_map _ hp⟩, fun h => by cases h⟩⟩
    · have e : (fs.map fun (p : Int × P6) => D.lst (segsOf (gpts p.1))) = (fs.take (fs.map toldT).length).map fun (p : Int × P6) => D.lst (segsOf (gpts p.1)) := by rw [el2, ta]
      rw [e]
      refine Ev.comp (ds := fs.map toldT) (fun _ => σ) (fun i => (fs.take i).map fun (p : Int × P6) => D.lst (segsOf (gpts p.1))) (EvIt.lst (Ev.name rfl)) rfl (fun i d hd => ?_) (by omega) (by walk_at "clos")
      obtain ⟨p, hp, rfl⟩ := map_get hd
      refine ⟨_, tgk_two, fun Zs E cl C hcl => ⟨true, E ++ σ, Ts.nil, fun _ => ⟨.lst (segsOf (gpts p.1)), ?_, take_map _ hp⟩, fun h => by cases h⟩⟩
      have es : segsOf (gpts p.1) = [gpts p.1].flatMap segsOf := by simp
      rw [es]
      exact Ev.call (gl_segments_of _) (EvL.cons (Ev.vcall (Ev.nameK rfl (hcl ("font", .free) (by decide) rfl)) (ov_outline _) rfl (EvL.cons (Ev.nameL rfl) EvL.nil) (hk.outline _ p.1 _) (by show 3 ≤ c.room; omega)) EvL.nil) (c_segments_of _ (css := [gpts p.1]) rfl (Nat.le_of_ble_eq_true rfl) (fun ps hps => by rw [List.mem_singleton.mp hps]; exact ⟨Nat.le_of_ble_eq_true rfl, Nat.le_of_ble_eq_true rfl⟩) _) (by show 6 ≤ c.room; omega)
theorem ints_is {Z : Kn} : ∀ {vs : List Value} {ns : List Int}, IntsAre vs ns → IsL Z (ns.map .int) vs
  | _, _, .nil => .nil
  | _, _, .cons n t r => .cons (.int n t) (ints_is r)
theorem Rl.get {Z : Kn} : ∀ {σ : Sg} {σo : Led}, Rl Z σ σo → ∀ {a : Addr} {P : SO}, (a, P) ∈ σ → ∃ o, (a, o) ∈ σo ∧ P.P Z o
  | _, _, .nil, _, _, h => by cases h
  | _, _, .cons h0 r, a, P, h => by
    rcases List.mem_cons.mp h with h | h
    · cases h; exact ⟨_, .head _, h0⟩
    · obtain ⟨o, h1, h2⟩ := Rl.get r h
      exact ⟨o, .tail _ h1, h2⟩
/-- from the head's ground to the own logic -/
theorem law_join {w : World} {g : Heap} {mg mb : Str → Option Value} {loose : List Str} {p : Program} {mean : ExcName → Option Value} {name : Str} {S : Scope} {body : List Stmt} {L fa sc a : Addr} {cd : Value} {vs : List Value} {ns : List Int} {h₁ : Heap} {gens : Array GenState} {drawn : Drawn} {toks : Nat} {os : OsState} {oc : Obj} {m : Str → Option Value} {A : Around} {Q : Flow → Shared → Prop} {E : Value → Shared → Prop}
    (K : (hd.heap_1 w.params).In g) (T : Top p loose mean mg mb g) (C : CodeHd g 482 478) (F : Fr g L h₁ m) (N : News g L h₁ [(sc, oc), (478, tabObj #[])])
    (hne : sc ≠ 478) (hlst : g.IsList a vs.toArray) (hI : IntsAre vs ns) (hk : S.kind = .function) (hscript : S.names.lookup ("script" : Str) = some .local) (hsrc : S.names.lookup ("source" : Str) = some .cell)
    (hm : m "script" = some (.ref a)) (hcl : (cellsFrom (L + 1) S.names []).lookup ("source" : Str) = some sc) (hcell : oc.data = .cell none)
    (hA : A.handled = none) (hdepth : A.depth + 16 < recursionLimit) (hunits : A.units + 8 * 16 + 64 < cLine)
    (ex : ∀ c : Cx, c.w = w → c.room = 16 → Ex c S [(478, TabP lamQ [])] [("script", .val (.lst (ns.map .int))), ("source", .unset)] body (RtG c S fun σ' d => d = .bool true ∧ ∃ P, (478, P) ∈ σ' ∧ ∃ q es, P = TabP q es))
    (hQ : ∀ fl s', retOf fl = .bool true → (∀ b o, g.get? b = some o → s'.heap.get? b = some o) → s'.gens = gens → s'.os = os → GrownAt 478 s'.heap → Q fl s') :
    wpAny (model PG w) A (execs body (envOfC name S L fa cd)) Q E ⟨h₁, gens, drawn, toks, os⟩ := by
  let c : Cx := { w := w, p := p, loose := loose, mg := mg, mb := mb, A := A, cn := name, L := L, a := fa, ccd := cd, cl := cellsFrom (L + 1) S.names [], g := g, gens := gens, drawn := drawn, os := os, Z0 := fun b o => b = a ∧ g.get? b = some o, room := 16 }
  have gz : ∀ {b : Addr} {o : Obj}, g.get? b = some o → h₁.get? b = some o ∧ b ≠ L ∧ b ≠ sc ∧ b ≠ 478 := fun {b o} e => by
    have n1 := (N _ (.head _)).2.2
    have n2 := (N _ (.tail _ (.head _))).2.2
    refine ⟨F.keep _ _ e, Nat.ne_of_lt (Nat.lt_of_lt_of_le (Heap.lt_size e) F.above), fun q => ?_, fun q => ?_⟩
    · rw [q] at e; rw [e] at n1; cases n1
    · rw [q] at e; rw [e] at n2; cases n2
  have ok : c.Ok := ⟨K, topRead_of T, hA, hdepth, hunits, T.bmain, C⟩
  have F0 : Fs c S .none [(478, TabP lamQ [])] [("script", .val (.lst (ns.map .int))), ("source", .unset)] [] [] ⟨h₁, gens, drawn, toks, os⟩ := by
    refine ⟨[(478, tabObj #[])], c.Z0, .cons ⟨[], rfl, rfl, fun _ h => by cases h⟩ .nil, [("source", sc, oc)], m, fun _ => none, ⟨ok, rfl, F, fun q hq => N q (.tail _ hq), fun q hq => ?_, ?_, fun b o hz => ?_, fun _ _ h => h, fun k e => (by cases e)⟩, hk, fun x b hx => ?_, fun x d e => (by cases e), fun q hq => (by cases hq)⟩
    · cases List.mem_singleton.mp hq; exact N _ (.head _)
    · show List.Pairwise _ [(sc, oc), (478, tabObj #[])]
      exact .cons (fun q hq => by cases List.mem_singleton.mp hq; exact hne) (.cons (fun _ h => by cases h) .nil)
    · obtain ⟨g1, g2, g3, g4⟩ := gz hz.2
      exact ⟨g1, g2, fun q hq => by cases List.mem_singleton.mp hq; exact g3, fun q hq => by cases List.mem_singleton.mp hq; exact g4, .inl hz⟩
    · rw [List.lookup_cons] at hx
      split at hx
      · rename_i q
        cases hx
        rw [eq_of_beq q]
        obtain ⟨o, h1, h2, n, h3⟩ := hlst
        exact .loc hscript hm (.val (.lst ⟨rfl, h1⟩ h2 h3 (ints_is hI)))
      · rw [List.lookup_cons] at hx
        split at hx
        · rename_i q
          cases hx
          rw [eq_of_beq q]
          exact .unset hsrc hcl (.head _) hcell
        · cases hx
  refine wpAny_mono (ex c rfl rfl _ F0) (fun fl s2 hr => ?_) fun _ _ e => e.elim
  obtain ⟨σ', d, ⟨rfl, P, hP, q, es, rfl⟩, F2⟩ := hr
  have hv := F2.isBool (.head _)
  obtain ⟨σ2, Z', hσ2, own2, m2, lm2, F3⟩ := F2
  have C2 := F3.core
  have e1 := C2.sh
  refine hQ fl s2 hv C2.fr.keep (by rw [e1]) (by rw [e1]) ?_
  obtain ⟨o, ho, hPo⟩ := hσ2.get hP
  obtain ⟨cs, _, rfl, _⟩ := hPo
  exact ⟨_, (C2.sg _ ho).1⟩
/-- the value of a program's fraction -/
noncomputable def qv (p : Int × Int) : Rat := (p.1 : Rat) / (p.2 : Rat)
structure Vs (p : Int × Int) (x : Rat) : Prop where
  pos : 0 < p.2
  cop : Int.gcd p.1 p.2 = 1
  val : (p.1 : Rat) = x * (p.2 : Rat)
theorem cast_ne {n : Int} (h : 0 < n) : (n : Rat) ≠ 0 := fun e => by
  have : (n : Rat) = ((0 : Int) : Rat) := e
  rw [Rat.intCast_inj] at this
  omega
theorem int_dvd {a b c : Int} (h : a ∣ b * c) (hg : Int.gcd b a = 1) : a ∣ c := by
  have h1 : a.natAbs ∣ b.natAbs * c.natAbs := by rw [← Int.natAbs_mul]; exact Int.natAbs_dvd_natAbs.mpr h
  exact Int.natAbs_dvd_natAbs.mp (Nat.Coprime.dvd_of_dvd_mul_left (show Nat.gcd a.natAbs b.natAbs = 1 by rw [Nat.gcd_comm]; exact hg) h1)
theorem Vs.eq {p q : Int × Int} {x y : Rat} (hp : Vs p x) (hq : Vs q y) (h : x = y) : p = q := by
  subst h
  have e : (p.1 : Rat) * (q.2 : Rat) = (q.1 : Rat) * (p.2 : Rat) := by rw [hp.val, hq.val]; grind
  rw [← Rat.intCast_mul, ← Rat.intCast_mul, Rat.intCast_inj] at e
  have d1 : p.2 ∣ q.2 := int_dvd (b := p.1) ⟨q.1, by rw [e, Int.mul_comm]⟩ hp.cop
  have d2 : q.2 ∣ p.2 := int_dvd (b := q.1) ⟨p.1, by rw [← e, Int.mul_comm]⟩ hq.cop
  have e2 : p.2 = q.2 := Int.dvd_antisymm (by have := hp.pos; omega) (by have := hq.pos; omega) d1 d2
  rw [e2] at e
  have e1 : p.1 = q.1 := Int.eq_of_mul_eq_mul_right (by have := hq.pos; omega) e
  exact Prod.ext e1 e2
theorem vs_frac {t b : Int} {x : Rat} (h : 0 < b) (hv : (t : Rat) = x * (b : Rat)) : Vs (frac t b) x := by
  have hg := gcd_pos (t := t) h
  rw [frac_pos h]
  obtain ⟨t', ht⟩ : (Int.gcd t b : Int) ∣ t := Int.gcd_dvd_left ..
  obtain ⟨b', hb⟩ : (Int.gcd t b : Int) ∣ b := Int.gcd_dvd_right ..
  have hne : (Int.gcd t b : Int) ≠ 0 := by omega
  have e1 : t / (Int.gcd t b : Int) = t' := Int.ediv_eq_of_eq_mul_right hne ht
  have e2 : b / (Int.gcd t b : Int) = b' := Int.ediv_eq_of_eq_mul_right hne hb
  refine ⟨?_, ?_, ?_⟩
  · show 0 < b / _
    rw [e2]
    have h' : 0 < b' * (Int.gcd t b : Int) := by rw [Int.mul_comm, ← hb]; exact h
    exact Int.pos_of_mul_pos_left h' hg
  · show Int.gcd (t / _) (b / _) = 1
    exact Int.gcd_ediv_gcd_ediv_gcd (by omega)
  · show ((t / (Int.gcd t b : Int) : Int) : Rat) = x * ((b / (Int.gcd t b : Int) : Int) : Rat)
    rw [e1, e2]
    have hc := cast_ne hg
    have h1 : (t : Rat) = ((Int.gcd t b : Int) : Rat) * (t' : Rat) := by rw [← Rat.intCast_mul, ← ht]
    have h2 : (b : Rat) = ((Int.gcd t b : Int) : Rat) * (b' : Rat) := by rw [← Rat.intCast_mul, ← hb]
    generalize ((Int.gcd t b : Int) : Rat) = g at *
    rw [h1, h2] at hv
    grind
theorem vs_int (n : Int) : Vs (n, 1) (n : Rat) := ⟨by show (0 : Int) < 1; decide, Int.gcd_one .., by show (n : Rat) = n * ((1 : Int) : Rat); simp⟩
theorem vs_plus {a b : Int × Int} {x y : Rat} (ha : Vs a x) (hb : Vs b y) : Vs (fplus a b) (x + y) :=
  vs_frac (Int.mul_pos ha.pos hb.pos) (by rw [Rat.intCast_add, Rat.intCast_mul, Rat.intCast_mul, Rat.intCast_mul, ha.val, hb.val]; grind)
theorem vs_minus {a b : Int × Int} {x y : Rat} (ha : Vs a x) (hb : Vs b y) : Vs (fminus a b) (x - y) :=
  vs_frac (Int.mul_pos ha.pos hb.pos) (by rw [Rat.intCast_sub, Rat.intCast_mul, Rat.intCast_mul, Rat.intCast_mul, ha.val, hb.val]; grind)
theorem vs_times {a b : Int × Int} {x y : Rat} (ha : Vs a x) (hb : Vs b y) : Vs (ftimes a b) (x * y) :=
  vs_frac (Int.mul_pos ha.pos hb.pos) (by rw [Rat.intCast_mul, Rat.intCast_mul, ha.val, hb.val]; grind)
theorem vs_divi {a : Int × Int} {x : Rat} {n : Int} (ha : Vs a x) (hn : 0 < n) : Vs (fdivd a (n, 1)) (x / (n : Rat)) :=
  vs_frac (Int.mul_pos ha.pos hn) (by
    have hc := cast_ne hn
    have h1 : (((n, 1) : Int × Int).2 : Rat) = 1 := rfl
    have h2 : (((n, 1) : Int × Int).1 : Rat) = n := rfl
    rw [Rat.intCast_mul, Rat.intCast_mul, h1, h2, ha.val]; grind)
theorem vs_neg {a : Int × Int} {x : Rat} (ha : Vs a x) : Vs (fneg a) (-x) := ⟨ha.pos, by show Int.gcd (-a.1) a.2 = 1; rw [Int.neg_gcd]; exact ha.cop, by show ((-a.1 : Int) : Rat) = _ * (a.2 : Rat); rw [Rat.intCast_neg, ha.val]; grind⟩
theorem vs_over {n : Int} (hn : 0 < n) : Vs (1, n) (1 / (n : Rat)) := ⟨hn, Int.one_gcd .., by
  have hc := cast_ne hn
  show ((1 : Int) : Rat) = 1 / (n : Rat) * (n : Rat)
  have h1 : ((1 : Int) : Rat) = 1 := rfl
  rw [h1]; grind⟩
theorem vs_half (n : Int) : Vs (frac n 2) ((n : Rat) / 2) := vs_frac (by decide) (by
  have h2 : ((2 : Int) : Rat) = 2 := rfl
  rw [h2]; grind)
theorem vs_shift {len : Int} {x : Str} (hx : x = "start" ∨ x = "middle" ∨ x = "end") : Vs (shiftOf len x) (-((shiftL len x : Int) : Rat) / 2) := by
  unfold shiftOf shiftL
  rcases hx with rfl | rfl | rfl
  · rw [if_pos rfl, if_pos rfl]
    have := vs_int 0
    have e : -(((0 : Int) : Rat)) / 2 = ((0 : Int) : Rat) := by have : ((0 : Int) : Rat) = 0 := rfl; rw [this]; grind
    rw [e]; exact this
  · rw [if_neg (by decide), if_pos rfl, if_neg (by decide), if_pos rfl]
    have := vs_half (0 - len)
    rw [Rat.intCast_sub] at this
    have e : (((0 : Int) : Rat) - (len : Rat)) / 2 = -(len : Rat) / 2 := by have : ((0 : Int) : Rat) = 0 := rfl; rw [this]; grind
    rw [← e]; exact this
  · rw [if_neg (by decide), if_neg (by decide), if_neg (by decide), if_neg (by decide)]
    have := vs_int (0 - len)
    have e : -(((2 * len : Int)) : Rat) / 2 = ((0 - len : Int) : Rat) := by
      rw [Rat.intCast_mul, Rat.intCast_sub]
      have h2 : ((2 : Int) : Rat) = 2 := rfl
      have h0 : ((0 : Int) : Rat) = 0 := rfl
      rw [h2, h0]; grind
    rw [e]; exact this
/-- a letter's middle: the program's and the law's are one -/
theorem middle_due {begin scale : Int × Int} {x s : Rat} {grain len : Int} {anchor : Str} {l : Let} (hb : Vs begin x) (hs : Vs scale s) (hx : anchor = "start" ∨ anchor = "middle" ∨ anchor = "end") :
    middleOf l (fplus begin (ftimes scale (shiftOf len anchor))) scale grain = dueQ begin scale grain (2 * l.begin + l.adv - shiftL len anchor) := by
  refine Vs.eq (vs_times (vs_plus (vs_plus hb (vs_times hs (vs_shift hx))) (vs_times hs (vs_plus (vs_int _) (vs_half _)))) (vs_int _)) (vs_times (vs_plus hb (vs_times hs (vs_half _))) (vs_int _)) ?_
  rw [Rat.intCast_sub, Rat.intCast_add, Rat.intCast_mul]
  have h2 : ((2 : Int) : Rat) = 2 := rfl
  rw [h2]
  grind
theorem holds_due (t : Side) (q : Int × Int) : holdsB t q = holdL q t := by
  have hs : ∀ n : Int, (sgn n ≤ 0 ↔ n ≤ 0) ∧ (0 ≤ sgn n ↔ 0 ≤ n) := fun n => by
    unfold sgn
    split
    · omega
    · split <;> omega
  unfold holdsB holdL
  rw [Bool.eq_iff_iff]
  simp only [Bool.and_eq_true, decide_eq_true_eq, (hs _).1, (hs _).2]
  omega
theorem side_due (ts : List Side) (q : Int × Int) : sideAt ts q = (ts.filter (holdL q)).head? := by
  unfold sideAt
  rw [List.head?_filter]
  congr 1
  funext t
  exact holds_due t q
/-- a letter's matrix: the program's and the law's are one -/
theorem mat_due {t : Side} {q scale : Int × Int} {x s : Rat} {wide grain : Int} (hl : 0 < t.len) (hg : 0 < grain) (hq : Vs q x) (hs : Vs scale s) :
    turnedOf scale (frac wide 2) (turnOf t) (fdivd (pointOf t q).1 (grain, 1), fdivd (pointOf t q).2 (grain, 1)) = lawMat t q wide scale grain := by
  have cl := cast_ne hl
  have cg := cast_ne hg
  have tn : ∀ n : Int, Vs (frac n t.len) ((n : Rat) / (t.len : Rat)) := fun n => vs_frac hl (by grind)
  have h0 : ((0 : Int) : Rat) = 0 := rfl
  have h1 : ((-1 : Int) : Rat) = -1 := rfl
  have pl : ∀ o n : Int, fminus (fdivd (fplus (o, 1) (ftimes (shareOf t q) (n, 1))) (grain, 1)) (ftimes (frac n t.len) (ftimes scale (frac wide 2))) = placeL q scale wide t.begin grain o (frac n t.len) := fun o n => by
    refine Vs.eq (vs_minus (vs_divi (vs_plus (vs_int _) (vs_times (vs_divi (vs_minus hq (vs_int _)) hl) (vs_int _))) hg) (vs_times (tn n) (vs_times hs (vs_half _))))
      (vs_plus (vs_times (vs_plus (vs_int _) (vs_times (vs_plus hq (vs_int _)) (tn n))) (vs_over hg)) (vs_times (vs_int _) (vs_times (tn n) (vs_times hs (vs_half _))))) ?_
    rw [Rat.intCast_sub, h0, h1]
    grind
  have md : fneg (ftimes scale (turnOf t).1) = ftimes (-1, 1) (ftimes scale (turnOf t).1) := by
    refine Vs.eq (vs_neg (vs_times hs (tn _))) (vs_times (vs_int _) (vs_times hs (tn _))) ?_
    rw [h1]; grind
  unfold turnedOf lawMat
  rw [md]
  have p1 := pl t.one.1 t.way.1
  have p2 := pl t.one.2 t.way.2
  show (_, _, _, _, fminus (fdivd (pointOf t q).1 (grain, 1)) _, fminus (fdivd (pointOf t q).2 (grain, 1)) _) = _
  unfold pointOf
  rw [show (turnOf t).1 = frac t.way.1 t.len from rfl, show (turnOf t).2 = frac t.way.2 t.len from rfl]
  rw [← p1, ← p2]
/-- where letter j begins, the kern ahead of it told -/
noncomputable def begB (as ks : List Int) (j : Nat) : Int := if j = 0 then (begAt as ks j).2 else (begAt as ks j).2 + ks.getD (j - 1) 0
theorem begAt_fst (as ks : List Int) : ∀ i, (begAt as ks i).1 = (List.range i).map (begB as ks)
  | 0 => rfl
  | i + 1 => by rw [range_snoc, ← begAt_fst as ks i]; rfl
theorem begAt_snd (as ks : List Int) (i : Nat) : (begAt as ks (i + 1)).2 = begB as ks i + as.getD i 0 := rfl
theorem take_sum (l : List Int) (i : Nat) : (l.take (i + 1)).sum = (l.take i).sum + l.getD i 0 := by
  rw [List.take_add_one, List.getD]
  cases h : l[i]? with
  | none => simp
  | some x => simp
theorem begAt_sum (as ks : List Int) : ∀ i, (begAt as ks i).2 = (as.take i).sum + (ks.take (i - 1)).sum
  | 0 => by simp [begAt]
  | i + 1 => by
    rw [begAt_snd, take_sum]
    unfold begB
    have ih := begAt_sum as ks i
    cases i with
    | zero => simp [begAt]
    | succ j =>
      rw [if_neg (by omega), ih]
      rw [show j + 1 + 1 - 1 = j + 1 by omega, show j + 1 - 1 = j by omega, take_sum ks j]
      omega
/-- the two reckonings of a text's letters agree -/
theorem mids_beg {ks : List Nat} (ht : Abc ks) {adv : List Int} {kern : Int} (ha : adv.length = 3) : ∀ i, i ≤ ks.length →
    mids ks adv kern i = ((List.range i).map fun j => 2 * begB (advs adv (gls ks)) (krs kern (gls ks) (ks.length - 1)) j + (advs adv (gls ks)).getD j 0, (begAt (advs adv (gls ks)) (krs kern (gls ks) (ks.length - 1)) i).2)
  | 0, _ => rfl
  | i + 1, hi => by
    have ih := mids_beg ht (kern := kern) ha i (by omega)
    have gk : ∀ j, j < ks.length → ga (gls ks) j = (ks.getD j 0 : Int) - 96 := fun j hj => by
      simp [ga, List.getD, List.getElem?_eq_getElem hj]
    have kj : ∀ j, j < ks.length → 97 ≤ ks.getD j 0 ∧ ks.getD j 0 ≤ 99 := fun j hj => by
      rw [List.getD, List.getElem?_eq_getElem hj]
      rcases ht.abc _ (List.getElem_mem hj) with h | h | h <;> simp [h]
    have ea : (advs adv (gls ks)).getD i 0 = adv.getD (ks.getD i 0 - 97) 0 := by
      have hk := kj i (by omega)
      have e : ks.getD i 0 = ks[i] := by rw [List.getD, List.getElem?_eq_getElem (show i < ks.length by omega)]; rfl
      rw [e] at hk ⊢
      rw [List.getD, List.getElem?_map, List.getElem?_map, List.getElem?_eq_getElem (show i < ks.length by omega)]
      show adv.getD (((ks[i] : Nat) : Int) - 96 - 1).toNat 0 = _
      rw [show (((ks[i] : Nat) : Int) - 96 - 1).toNat = ks[i] - 97 by omega]
    have eb : (begAt (advs adv (gls ks)) (krs kern (gls ks) (ks.length - 1)) i).2 + kernAt ks kern i = begB (advs adv (gls ks)) (krs kern (gls ks) (ks.length - 1)) i := by
      unfold begB kernAt
      by_cases h0 : i = 0
      · rw [if_pos h0, if_neg (by omega)]; omega
      · rw [if_neg h0]
        have hk1 := kj i (by omega)
        have hk2 := kj (i - 1) (by omega)
        have e1 := gk i (by omega)
        have e2 := gk (i - 1) (by omega)
        have ek : (krs kern (gls ks) (ks.length - 1)).getD (i - 1) 0 = if ga (gls ks) (i - 1) = 1 ∧ ga (gls ks) (i - 1 + 1) = 2 then kern else 0 := by
          rw [List.getD, List.getElem?_map, List.getElem?_range (show i - 1 < ks.length - 1 by omega)]
          rfl
        rw [ek, show i - 1 + 1 = i by omega, e1, e2]
        congr 1
        by_cases hc : ks.getD (i - 1) 0 = 97 ∧ ks.getD i 0 = 98
        · rw [if_pos ⟨by omega, hc⟩, if_pos (by omega)]
        · rw [if_neg (fun h => hc h.2), if_neg (by omega)]
    have em : mids ks adv kern (i + 1) = ((mids ks adv kern i).1 ++ [2 * ((mids ks adv kern i).2 + kernAt ks kern i) + adv.getD (ks.getD i 0 - 97) 0], (mids ks adv kern i).2 + kernAt ks kern i + adv.getD (ks.getD i 0 - 97) 0) := rfl
    rw [em, ih, range_snoc]
    show (_ ++ [2 * ((begAt (advs adv (gls ks)) (krs kern (gls ks) (ks.length - 1)) i).2 + kernAt ks kern i) + _], (begAt (advs adv (gls ks)) (krs kern (gls ks) (ks.length - 1)) i).2 + kernAt ks kern i + _) = _
    rw [eb, ← ea, ← begAt_snd]
theorem letters_len {ks : List Nat} (ht : Abc ks) {adv : List Int} {kern : Int} (ha : adv.length = 3) : (lettersOf ks adv kern).2 = (mids ks adv kern ks.length).2 := by
  rw [mids_beg ht ha _ (Nat.le_refl _)]
  show (advs adv (gls ks)).sum + (krs kern (gls ks) (ks.length - 1)).sum = _
  rw [begAt_sum, List.take_of_length_le (by simp), List.take_of_length_le (by simp)]
theorem letters_list (ks : List Nat) (adv : List Int) (kern : Int) : (lettersOf ks adv kern).1 = (List.range ks.length).map fun j => ⟨ga (gls ks) j, ga (advs adv (gls ks)) j, begB (advs adv (gls ks)) (krs kern (gls ks) (ks.length - 1)) j⟩ := by
  show (List.range ks.length).map _ = _
  refine List.map_congr_left fun j hj => ?_
  have hj' := List.mem_range.mp hj
  congr 1
  rw [begAt_fst]
  show List.getD _ _ _ = _
  rw [List.getD, List.getElem?_map, List.getElem?_range hj']
  rfl
theorem zip_range {α β : Type} (f : Nat → α) (g : Nat → β) (l : List Nat) : (l.map f).zip (l.map g) = l.map fun j => (f j, g j) := by
  induction l with
  | nil => rfl
  | cons a r ih => simp only [List.map_cons, List.zip_cons_cons, ih]
theorem fm_congr {α β : Type} {f g : α → Option β} {l : List α} (h : ∀ x ∈ l, f x = g x) : l.filterMap f = l.filterMap g := by
  induction l with
  | nil => rfl
  | cons a r ih => rw [List.filterMap_cons, List.filterMap_cons, h a (.head _), ih fun x hx => h x (.tail _ hx)]
theorem mids_zip {ks : List Nat} (ht : Abc ks) {adv : List Int} {kern : Int} {anchor : Str} (ha : adv.length = 3) :
    ks.zip (middlesOf ks adv kern anchor) = (List.range ks.length).map fun j => (ks.getD j 0, 2 * begB (advs adv (gls ks)) (krs kern (gls ks) (ks.length - 1)) j + (advs adv (gls ks)).getD j 0 - shiftL (lettersOf ks adv kern).2 anchor) := by
  have e1 : ks = (List.range ks.length).map fun j => ks.getD j 0 := by
    refine List.ext_getElem (by simp) fun i h1 h2 => ?_
    simp [List.getElem?_eq_getElem h1]
  have e2 : middlesOf ks adv kern anchor = (List.range ks.length).map fun j => 2 * begB (advs adv (gls ks)) (krs kern (gls ks) (ks.length - 1)) j + (advs adv (gls ks)).getD j 0 - shiftL (lettersOf ks adv kern).2 anchor := by
    rw [letters_len ht ha]
    unfold middlesOf
    generalize (mids ks adv kern ks.length).2 = len
    rw [mids_beg ht ha _ (Nat.le_refl _), List.map_map]
    rfl
  rw [e2]
  conv => lhs; arg 1; rw [e1]
  exact zip_range _ _ _
/-- what the program tells is what the law tells -/
theorem told_due {ks : List Nat} (ht : Abc ks) {adv : List Int} {kern : Int} {anchor : Str} (ha : adv.length = 3) {ts : List Side} {begin size : Int × Int} {x : Rat} {grain : Int} (hx : anchor = "start" ∨ anchor = "middle" ∨ anchor = "end")
    (hb : Vs begin x) (hs : 0 < size.2) (hg : 0 < grain) (hl : ∀ t ∈ ts, 0 < t.len) :
    (lettersOf ks adv kern).1.filterMap (toldOf ts (fplus begin (ftimes (fdivd size (1000, 1)) (shiftOf (lettersOf ks adv kern).2 anchor))) (fdivd size (1000, 1)) grain) = (ks.zip (middlesOf ks adv kern anchor)).filterMap (dueOf ts adv begin (frac size.1 (size.2 * 1000)) grain) := by
  have es : fdivd size (1000, 1) = frac size.1 (size.2 * 1000) := by show frac (size.1 * 1) (size.2 * 1000) = _; rw [Int.mul_one]
  rw [es]
  have hp : 0 < size.2 * 1000 := by omega
  have hne := cast_ne hp
  have hsc : Vs (frac size.1 (size.2 * 1000)) ((size.1 : Rat) / ((size.2 * 1000 : Int) : Rat)) := vs_frac hp (by grind)
  generalize frac size.1 (size.2 * 1000) = scale at *
  rw [letters_list, mids_zip ht ha, List.filterMap_map, List.filterMap_map]
  refine fm_congr fun j hj => ?_
  have hj' := List.mem_range.mp hj
  have hk : 97 ≤ ks.getD j 0 ∧ ks.getD j 0 ≤ 99 := by
    rw [List.getD, List.getElem?_eq_getElem hj']
    rcases ht.abc _ (List.getElem_mem hj') with h | h | h <;> simp [h]
  have eg : ga (gls ks) j = (ks.getD j 0 : Int) - 96 := by simp [ga, List.getD, List.getElem?_eq_getElem hj']
  have ea : ga (advs adv (gls ks)) j = adv.getD (ks.getD j 0 - 97) 0 := by
    have e : ks.getD j 0 = ks[j] := by rw [List.getD, List.getElem?_eq_getElem hj']; rfl
    rw [e] at hk ⊢
    show (advs adv (gls ks)).getD j 0 = _
    rw [List.getD, List.getElem?_map, List.getElem?_map, List.getElem?_eq_getElem hj']
    show adv.getD (((ks[j] : Nat) : Int) - 96 - 1).toNat 0 = _
    rw [show (((ks[j] : Nat) : Int) - 96 - 1).toNat = ks[j] - 97 by omega]
  show toldOf ts _ scale grain ⟨ga (gls ks) j, ga (advs adv (gls ks)) j, begB (advs adv (gls ks)) (krs kern (gls ks) (ks.length - 1)) j⟩ = dueOf ts adv begin scale grain (ks.getD j 0, 2 * begB (advs adv (gls ks)) (krs kern (gls ks) (ks.length - 1)) j + ga (advs adv (gls ks)) j - shiftL (lettersOf ks adv kern).2 anchor)
  unfold toldOf dueOf
  rw [middle_due hb hsc hx]
  show Option.map _ (sideAt ts (dueQ begin scale grain (2 * begB (advs adv (gls ks)) (krs kern (gls ks) (ks.length - 1)) j + ga (advs adv (gls ks)) j - shiftL (lettersOf ks adv kern).2 anchor))) = Option.map _ (ts.filter (holdL (dueQ begin scale grain (2 * begB (advs adv (gls ks)) (krs kern (gls ks) (ks.length - 1)) j + ga (advs adv (gls ks)) j - shiftL (lettersOf ks adv kern).2 anchor)))).head?
  have hq := vs_times (vs_plus hb (vs_times hsc (vs_half (2 * begB (advs adv (gls ks)) (krs kern (gls ks) (ks.length - 1)) j + ga (advs adv (gls ks)) j - shiftL (lettersOf ks adv kern).2 anchor)))) (vs_int grain)
  rw [side_due, ← eg, ← ea]
  generalize 2 * begB (advs adv (gls ks)) (krs kern (gls ks) (ks.length - 1)) j + ga (advs adv (gls ks)) j - shiftL (lettersOf ks adv kern).2 anchor = half at *
  cases hf : (ts.filter (holdL (dueQ begin scale grain half))).head? with
  | none => rfl
  | some t =>
    have htm : t ∈ ts := (List.mem_filter.mp (List.mem_of_head? hf)).1
    show some (_, turnedOf scale (frac (ga (advs adv (gls ks)) j) 2) (turnOf t) _) = some (_, lawMat t _ _ scale grain)
    rw [mat_due (q := dueQ begin scale grain half) (hl t htm) hg hq hsc]
/-- a way of whole length, not too large -/
noncomputable abbrev GW (v : Int × Int) : Prop := v.1 * v.1 + v.2 * v.2 = farOf v * farOf v ∧ 0 ≤ farOf v ∧ farOf v ≤ 200 ∧ v.1.natAbs ≤ 200 ∧ v.2.natAbs ≤ 200
theorem bd_le {k : Nat} {n : Int} {m : Nat} (h : n.natAbs ≤ m) (hm : Nat.blt m (2 ^ k) = true) : Bd k n := Nat.lt_of_le_of_lt h (Nat.le_of_ble_eq_true hm)
theorem GW.good {v : Int × Int} (h : GW v) : GoodWay v := by
  obtain ⟨h1, h2, h3, h4, h5⟩ := h
  exact ⟨h1, h2, bd_le (m := 200) (by omega) rfl, bd_le h4 rfl, bd_le h5 rfl⟩
theorem gw_six : ∀ v ∈ ways6, ∀ m ∈ [(10 : Int), 20, 30], GW (v.1 * m, v.2 * m) ∧ GW (0 - v.1 * m, 0 - v.2 * m) := by decide +kernel
theorem gw_walk (q : Int × Int) : GW ((wayP q).1 * manyP q, (wayP q).2 * manyP q) ∧ GW (0 - (wayP q).1 * manyP q, 0 - (wayP q).2 * manyP q) :=
  gw_six _ (wayP_mem q) _ (by rcases manyP_is q with h | h | h <;> simp [h])
theorem last_pt {l : List (Int × Int)} {n : Nat} (h : l.length = n + 1) : l.getLastD (0, 0) = pt l n := by
  rw [List.getLastD_eq_getLast?, List.getLast?_eq_getElem?, h]
  rfl
theorem pt_left {l r : List (Int × Int)} {i : Nat} (h : i < l.length) : pt (l ++ r) i = pt l i := by
  unfold pt
  rw [List.getD, List.getD, List.getElem?_append_left h]
theorem pt_right {l r : List (Int × Int)} {i : Nat} : pt (l ++ r) (l.length + i) = pt r i := by
  unfold pt
  rw [List.getD, List.getD, List.getElem?_append_right (by omega)]
  rw [Nat.add_sub_cancel_left]
theorem walk_way (p : Int × Int) : ∀ n i, i < n → ∃ q, wayAt (walkP p n).2 i = ((wayP q).1 * manyP q, (wayP q).2 * manyP q)
  | 0, _, h => absurd h (by omega)
  | n + 1, i, h => by
    have hl := walkP_len p n
    have ew : (walkP p (n + 1)).2 = (walkP p n).2 ++ [(((walkP p n).2.getLastD (0, 0)).1 + (wayP (walkP p n).1).1 * manyP (walkP p n).1, ((walkP p n).2.getLastD (0, 0)).2 + (wayP (walkP p n).1).2 * manyP (walkP p n).1)] := rfl
    rw [ew, last_pt hl]
    by_cases hi : i < n
    · obtain ⟨q, hq⟩ := walk_way p n i hi
      refine ⟨q, ?_⟩
      show ((pt _ (i + 1)).1 - (pt _ i).1, (pt _ (i + 1)).2 - (pt _ i).2) = _
      rw [pt_left (by omega), pt_left (by omega)]
      exact hq
    · obtain rfl : i = n := by omega
      refine ⟨(walkP p i).1, ?_⟩
      show ((pt _ (i + 1)).1 - (pt _ i).1, (pt _ (i + 1)).2 - (pt _ i).2) = _
      have e1 := pt_right (l := (walkP p i).2) (r := [((pt (walkP p i).2 i).1 + (wayP (walkP p i).1).1 * manyP (walkP p i).1, (pt (walkP p i).2 i).2 + (wayP (walkP p i).1).2 * manyP (walkP p i).1)]) (i := 0)
      rw [hl, Nat.add_zero] at e1
      rw [e1, pt_left (by omega)]
      show ((pt (walkP p i).2 i).1 + _ - _, (pt (walkP p i).2 i).2 + _ - _) = _
      refine Prod.ext ?_ ?_
      · show (pt (walkP p i).2 i).1 + _ - (pt (walkP p i).2 i).1 = _; omega
      · show (pt (walkP p i).2 i).2 + _ - (pt (walkP p i).2 i).2 = _; omega
theorem walk_bd (p : Int × Int) : ∀ n, ∀ x ∈ (walkP p n).2, x.1.natAbs ≤ 20 + 200 * n ∧ x.2.natAbs ≤ 20 + 200 * n
  | 0, x, hx => by
    have h1 := nxt_range p (top := 20) (by decide)
    have h2 := nxt_range (nxt p 20).1 (top := 20) (by decide)
    cases List.mem_singleton.mp (show x ∈ [(spot0 p).2] from hx)
    unfold spot0
    dsimp only
    omega
  | n + 1, x, hx => by
    have hl := walkP_len p n
    have ih := walk_bd p n
    have hg := (gw_walk (walkP p n).1).1
    rcases List.mem_append.mp (show x ∈ (walkP p n).2 ++ _ from hx) with hx | hx
    · have := ih x hx; omega
    · cases List.mem_singleton.mp hx
      have hm : (walkP p n).2.getLastD (0, 0) ∈ (walkP p n).2 := by
        rw [last_pt hl]
        unfold pt
        rw [List.getD, List.getElem?_eq_getElem (by omega)]
        exact List.getElem_mem _
      have := ih _ hm
      obtain ⟨_, _, _, h4, h5⟩ := hg
      dsimp only at h4 h5 ⊢
      omega
theorem closed_two (p : Int × Int) (h : closedP p = true) : (spotsP p).length = 2 := by
  unfold closedP at h
  rw [Bool.and_eq_true] at h
  exact eq_of_beq h.1
theorem round_way (p : Int × Int) : ∀ i, i + 1 < (roundOf (spotsP p) (closedP p)).length → GW (wayAt (roundOf (spotsP p) (closedP p)) i) := by
  intro i hi
  have hl : (spotsP p).length = turnsP p + 1 := walkP_len p _
  have hw : ∀ i, i + 1 < (spotsP p).length → ∃ q, wayAt (spotsP p) i = ((wayP q).1 * manyP q, (wayP q).2 * manyP q) := fun i h => walk_way p _ i (by omega)
  have h2 := closed_two p
  generalize spotsP p = ps at *
  generalize closedP p = closed at *
  cases closed with
  | false =>
    have e : roundOf ps false = ps := by unfold roundOf; simp
    rw [e] at hi ⊢
    obtain ⟨q, hq⟩ := hw i hi
    rw [hq]; exact (gw_walk q).1
  | true =>
    have h2 := h2 rfl
    match ps, h2 with
    | [a, b], _ =>
      obtain ⟨q, hq⟩ := hw 0 (by show 0 + 1 < 2; omega)
      have e1 : b.1 - a.1 = (wayP q).1 * manyP q := congrArg Prod.fst hq
      have e2 : b.2 - a.2 = (wayP q).2 * manyP q := congrArg Prod.snd hq
      have hi' : i + 1 < 3 := hi
      match i, hi' with
      | 0, _ =>
        show GW (b.1 - a.1, b.2 - a.2)
        rw [e1, e2]; exact (gw_walk q).1
      | 1, _ =>
        show GW (a.1 - b.1, a.2 - b.2)
        rw [show a.1 - b.1 = 0 - (wayP q).1 * manyP q by omega, show a.2 - b.2 = 0 - (wayP q).2 * manyP q by omega]
        exact (gw_walk q).2
theorem round_bd (p : Int × Int) : ∀ x ∈ roundOf (spotsP p) (closedP p), x.1.natAbs ≤ 2000 ∧ x.2.natAbs ≤ 2000 := by
  intro x hx
  have ht := turnsP_le p
  have hb := walk_bd p (turnsP p)
  have hm : x ∈ spotsP p := by
    unfold roundOf at hx
    rcases List.mem_append.mp hx with h | h
    · exact h
    · split at h
      · exact List.mem_of_mem_take h
      · cases h
  have := hb x hm
  omega
theorem round_len (p : Int × Int) : 1 ≤ (roundOf (spotsP p) (closedP p)).length ∧ (roundOf (spotsP p) (closedP p)).length ≤ 7 := by
  have ht := turnsP_le p
  have hl : (spotsP p).length = turnsP p + 1 := walkP_len p _
  unfold roundOf
  split <;> simp <;> omega
theorem pt_bd {R : List (Int × Int)} {m : Nat} (h : ∀ x ∈ R, x.1.natAbs ≤ m ∧ x.2.natAbs ≤ m) (i : Nat) : (pt R i).1.natAbs ≤ m ∧ (pt R i).2.natAbs ≤ m := by
  unfold pt
  rw [List.getD]
  cases q : R[i]? with
  | none => exact ⟨Nat.zero_le _, Nat.zero_le _⟩
  | some x => exact h x (List.mem_of_getElem? q)
theorem sides_ok {R : List (Int × Int)} (hR : R.length ≤ 10) (hw : ∀ i, i + 1 < R.length → GW (wayAt R i)) (hp : ∀ x ∈ R, x.1.natAbs ≤ 2000 ∧ x.2.natAbs ≤ 2000) : ∀ i, i + 1 ≤ R.length → (∀ t ∈ (sidesTo R i).1, SideB t) ∧ 0 ≤ (sidesTo R i).2 ∧ (sidesTo R i).2 ≤ 200 * i
  | 0, _ => ⟨fun t h => (by cases h), by show (0 : Int) ≤ 0; omega, by show (0 : Int) ≤ 200 * ((0 : Nat) : Int); omega⟩
  | i + 1, hi => by
    obtain ⟨h1, h2, h3⟩ := sides_ok hR hw hp i (by omega)
    obtain ⟨w1, w2, w3, w4, w5⟩ := hw i (by omega)
    have hpt := pt_bd hp i
    by_cases h : 0 < farOf (wayAt R i)
    · have e : sidesTo R (i + 1) = ((sidesTo R i).1 ++ [⟨pt R i, wayAt R i, farOf (wayAt R i), (sidesTo R i).2⟩], (sidesTo R i).2 + farOf (wayAt R i)) := by rw [sidesTo]; exact if_pos h
      rw [e]
      refine ⟨fun t ht => ?_, by dsimp only; omega, by dsimp only; omega⟩
      rcases List.mem_append.mp ht with ht | ht
      · exact h1 t ht
      · cases List.mem_singleton.mp ht
        exact ⟨bd_le (m := 4000) (by dsimp only; omega) rfl, bd_le (m := 4000) (by dsimp only; omega) rfl, bd_le (m := 4000) (by dsimp only; omega) rfl, h, bd_le hpt.1 rfl, bd_le hpt.2 rfl, bd_le w4 rfl, bd_le w5 rfl⟩
    · have e : sidesTo R (i + 1) = sidesTo R i := by rw [sidesTo]; exact if_neg h
      rw [e]
      exact ⟨h1, h2, by omega⟩
theorem sides_last (R : List (Int × Int)) : ∀ i, ((sidesTo R i).1.getLast?.map fun t => t.begin + t.len).getD 0 = (sidesTo R i).2
  | 0 => rfl
  | i + 1 => by
    by_cases h : 0 < farOf (wayAt R i)
    · have e : sidesTo R (i + 1) = ((sidesTo R i).1 ++ [⟨pt R i, wayAt R i, farOf (wayAt R i), (sidesTo R i).2⟩], (sidesTo R i).2 + farOf (wayAt R i)) := by rw [sidesTo]; exact if_pos h
      rw [e]
      simp
    · have e : sidesTo R (i + 1) = sidesTo R i := by rw [sidesTo]; exact if_neg h
      rw [e]
      exact sides_last R i
theorem getD_bd {l : List Int} {m : Nat} (h : ∀ a ∈ l, a.natAbs ≤ m) (i : Nat) : (l.getD i 0).natAbs ≤ m := by
  rw [List.getD]
  cases q : l[i]? with
  | none => exact Nat.zero_le _
  | some x => exact h x (List.mem_of_getElem? q)
theorem beg_bd {as ks : List Int} (ha : ∀ a ∈ as, a.natAbs ≤ 3000) (hk : ∀ a ∈ ks, a.natAbs ≤ 1000) : ∀ i, (begAt as ks i).2.natAbs ≤ 4000 * i ∧ (begB as ks i).natAbs ≤ 4000 * i + 1000
  | 0 => ⟨by show (0 : Int).natAbs ≤ _; omega, by show (0 : Int).natAbs ≤ _; omega⟩
  | i + 1 => by
    have ih := beg_bd ha hk i
    have h1 := getD_bd ha i
    have h2 := getD_bd hk (i + 1 - 1)
    have e1 : (begAt as ks (i + 1)).2.natAbs ≤ 4000 * (i + 1) := by rw [begAt_snd]; omega
    refine ⟨e1, ?_⟩
    unfold begB
    rw [if_neg (by omega)]
    omega
theorem advs_bd {adv : List Int} {m : Nat} (h : ∀ a ∈ adv, a.natAbs ≤ m) (gs : List Int) : ∀ a ∈ advs adv gs, a.natAbs ≤ m := fun a ha => by
  obtain ⟨g, _, rfl⟩ := List.mem_map.mp ha
  exact getD_bd h _
theorem krs_bd {kern : Int} {m : Nat} (h : kern.natAbs ≤ m) (gs : List Int) (n : Nat) : ∀ a ∈ krs kern gs n, a.natAbs ≤ m := fun a ha => by
  obtain ⟨g, _, rfl⟩ := List.mem_map.mp ha
  split
  · exact h
  · exact Nat.zero_le _
theorem letters_bd {ks : List Nat} (ht : Abc ks) {adv : List Int} {kern : Int} {anchor : Str} (ha : adv.length = 3) (hav : ∀ a ∈ adv, a.natAbs ≤ 3000) (hk : kern.natAbs ≤ 1000) :
    (∀ l ∈ (lettersOf ks adv kern).1, LetB l) ∧ Bd 17 (lettersOf ks adv kern).2 ∧ ∀ m ∈ middlesOf ks adv kern anchor, Bd 16 m := by
  have hn := ht.len
  have hb := beg_bd (advs_bd hav (gls ks)) (krs_bd hk (gls ks) (ks.length - 1))
  have hA := advs_bd hav (gls ks)
  have hlen : (lettersOf ks adv kern).2.natAbs ≤ 12000 := by
    rw [letters_len ht ha, mids_beg ht ha _ (Nat.le_refl _)]
    have := (hb ks.length).1
    show (begAt _ _ _).2.natAbs ≤ _
    omega
  refine ⟨fun l hl => ?_, bd_le hlen rfl, fun m hm => ?_⟩
  · rw [letters_list] at hl
    obtain ⟨j, hj, rfl⟩ := List.mem_map.mp hl
    have hj' := List.mem_range.mp hj
    have h1 := (hb j).2
    have h2 := getD_bd hA j
    exact ⟨bd_le (m := 20000) (by dsimp only; omega) rfl, bd_le (m := 20000) (by show (List.getD (advs adv (gls ks)) j 0).natAbs ≤ 20000; omega) rfl⟩
  · have hsh : (shiftL (lettersOf ks adv kern).2 anchor).natAbs ≤ 24000 := by
      unfold shiftL
      split
      · decide
      · split <;> omega
    obtain ⟨k, hk'⟩ : ∃ k, (k, m) ∈ ks.zip (middlesOf ks adv kern anchor) := by
      obtain ⟨i, hi, rfl⟩ := List.getElem_of_mem hm
      have hml : (middlesOf ks adv kern anchor).length = ks.length := by unfold middlesOf; rw [List.length_map, mids_len]
      exact ⟨ks[i]'(by omega), List.mem_of_getElem? (i := i) (List.getElem?_zip_eq_some.mpr ⟨List.getElem?_eq_getElem (by omega), List.getElem?_eq_getElem hi⟩)⟩
    rw [mids_zip ht ha] at hk'
    obtain ⟨j, hj, e⟩ := List.mem_map.mp hk'
    have hj' := List.mem_range.mp hj
    have e2 := congrArg Prod.snd e
    dsimp only at e2
    have h1 := (hb j).2
    have h2 := getD_bd hA j
    refine bd_le (m := 65000) ?_ rfl
    rw [← e2]
    omega
noncomputable def textP (q : Int × Int) : Nat → (Int × Int) × List Nat
  | 0 => (q, [])
  | i + 1 => ((nxt (textP q i).1 3).1, (textP q i).2 ++ [97 + (nxt (textP q i).1 3).2.toNat])
noncomputable def advP (q : Int × Int) : Nat → (Int × Int) × List Int
  | 0 => (q, [])
  | i + 1 => ((nxt (advP q i).1 4).1, (advP q i).2 ++ [1000 * (nxt (advP q i).1 4).2])
theorem textP_abc (q : Int × Int) : ∀ n, (textP q n).2.length = n ∧ ∀ k ∈ (textP q n).2, k = 97 ∨ k = 98 ∨ k = 99
  | 0 => ⟨rfl, fun k h => by cases h⟩
  | n + 1 => by
    have ih := textP_abc q n
    have hr := nxt_range (textP q n).1 (top := 3) (by decide)
    refine ⟨by simp [textP, ih.1], fun k hk => ?_⟩
    rcases List.mem_append.mp (show k ∈ (textP q n).2 ++ [_] from hk) with h | h
    · exact ih.2 k h
    · cases List.mem_singleton.mp h; omega
theorem advP_ok (q : Int × Int) : ∀ n, (advP q n).2.length = n ∧ ∀ a ∈ (advP q n).2, a.natAbs ≤ 3000
  | 0 => ⟨rfl, fun k h => by cases h⟩
  | n + 1 => by
    have ih := advP_ok q n
    have hr := nxt_range (advP q n).1 (top := 4) (by decide)
    refine ⟨by simp [advP, ih.1], fun k hk => ?_⟩
    rcases List.mem_append.mp (show k ∈ (advP q n).2 ++ [_] from hk) with h | h
    · exact ih.2 k h
    · cases List.mem_singleton.mp h; omega
theorem getD_mem {α : Type} (l : List α) (i : Nat) (d : α) : l.getD i d ∈ d :: l := by
  rw [List.getD]
  cases h : l[i]? with
  | none => exact .head _
  | some x => exact .tail _ (List.mem_of_getElem? h)
theorem c_pick (w : World) {α : Type} {sd : Addr} {p : Int × Int} {n : Nat} (l : List α) (f : α → D) (d0 : α) (hn : l.length = n) (h0 : 1 ≤ n) (hz : n ≤ 100) (σ1 σ2 : Sg) :
    Fn w (.ref 448) 2 [.val (.ref sd), .lst (l.map f)] (σ1 ++ (sd, Src w p.1 p.2) :: σ2) (σ1 ++ (sd, Src w (nxt p n).1.1 (nxt p n).1.2) :: σ2) (f (l.getD (nxt p n).2.toNat d0)) := by
  have hl : (l.map f).length = n := by rw [List.length_map, hn]
  have hr := nxt_range p (top := n) (by omega)
  have := c_law_pickL w (sd := sd) (p := p) (ds := l.map f) (d := f (l.getD (nxt p n).2.toNat d0)) (by omega) (by omega) (by
    rw [hl, List.getElem?_map, List.getD, List.getElem?_eq_getElem (by omega)]; rfl) σ1 σ2
  rw [hl] at this
  exact this
noncomputable def kernOf (q : Int × Int) : Int := [0, -500, 1000].getD (nxt q 3).2.toNat 0
noncomputable def grainOf (q : Int × Int) : Int := [5, 10].getD (nxt q 2).2.toNat 5
noncomputable def sizeOf' (q : Int × Int) : Int × Int := [(1, 1), (2, 1), (1, 2)].getD (nxt q 3).2.toNat (1, 1)
noncomputable def anchorOf (q : Int × Int) : Str := [("start" : Str), "middle", "end"].getD (nxt q 3).2.toNat "start"
theorem kernOf_ok (q : Int × Int) : (kernOf q).natAbs ≤ 1000 := by
  have h : ∀ k ∈ (0 : Int) :: [0, -500, 1000], k.natAbs ≤ 1000 := by decide
  exact h _ (getD_mem _ _ _)
theorem grainOf_ok (q : Int × Int) : 0 < grainOf q ∧ Bd 5 (grainOf q) := by
  have h : ∀ k ∈ (5 : Int) :: [5, 10], 0 < k ∧ k.natAbs < 2 ^ 5 := by decide
  exact h _ (getD_mem _ _ _)
theorem sizeOf_ok (q : Int × Int) : Bz 3 (sizeOf' q) := by
  have h : ∀ k ∈ ((1, 1) : Int × Int) :: [(1, 1), (2, 1), (1, 2)], k.1.natAbs < 2 ^ 3 ∧ k.2.natAbs < 2 ^ 3 ∧ 0 < k.2 := by decide
  have := h (sizeOf' q) (getD_mem _ _ _)
  exact ⟨this.1, this.2.1, this.2.2⟩
theorem anchorOf_ok (q : Int × Int) : anchorOf q = "start" ∨ anchorOf q = "middle" ∨ anchorOf q = "end" := by
  have := getD_mem [("start" : Str), "middle", "end"] (nxt q 3).2.toNat "start"
  simp only [List.mem_cons, List.not_mem_nil, or_false] at this
  unfold anchorOf
  rcases this with h | h | h | h
  · exact .inl h
  · exact .inl h
  · exact .inr (.inl h)
  · exact .inr (.inr h)
theorem join_abc {l : List Nat} (h : l.length ≤ 3) (h1 : 1 ≤ l.length) : JoinOk "" (l.map fun k => (⟨#[k]⟩ : Str)) = true ∧ Txt.join "" (l.map fun k => (⟨#[k]⟩ : Str)) = txt l := by
  have e : ("" : Str) = ⟨#[]⟩ := by decide +kernel
  rw [e]
  match l, h, h1 with
  | [a], _, _ => exact ⟨rfl, rfl⟩
  | [a, b], _, _ => exact ⟨rfl, rfl⟩
  | [a, b, c], _, _ => exact ⟨rfl, rfl⟩
noncomputable abbrev FontC : (k1 k2 k3 k4 : Lam) → Prop := fun k1 k2 k3 k4 => ∀ (w : World) (adv : List Int) (kern : Int) (es : List (Int × Int)) (σ1 σ2 : Sg), (es = [] ∨ es = lamPos) → Fn w (.ref 483) 3 [.lst (adv.map .int), .int kern] (σ1 ++ (478, TabP lamQ es) :: σ2) (σ1 ++ (478, TabP lamQ lamPos) :: σ2) (fontD k1 k2 k3 k4 adv kern)
noncomputable def ps0 : List (Int × Int) := [(0, 0), (30, 40), (90, 40)]
noncomputable def ts0 : List Side := [⟨(0, 0), (30, 40), 50, 0⟩, ⟨(30, 40), (60, 0), 60, 50⟩]
theorem sides0 (w : World) (σ : Sg) : Fn w (.ref 391) 5 [.tup [.tup (ps0.map P2), .bool false]] σ σ (.lst (ts0.map sideD)) := by
  have gw : ∀ i, i + 1 < (roundOf ps0 false).length → GoodWay (wayAt (roundOf ps0 false) i) := fun i hi => by
    have hi' : i + 1 < 3 := hi
    have h : ∀ i, i + 1 < 3 → GW (wayAt (roundOf ps0 false) i) := fun i h => by
      match i, h with
      | 0, _ => exact (by decide +kernel : GW (30, 40))
      | 1, _ => exact (by decide +kernel : GW (60, 0))
    exact (h i hi').good
  have := c_path_sides w (ps := ps0) (closed := false) (by decide) (by decide) (fun h => by cases h) gw σ
  exact this
theorem c_fixed (w : World) {k1 k2 k3 k4 : Lam} (hk : LamOk k1 k2 k3 k4) (hfo : FontC k1 k2 k3 k4) :
    Fn w (.ref 505) 9 [.tup [.tup (ps0.map P2), .bool false], .lst (ts0.map sideT), .int 110, .tup [.str "a", .lst ([(2000 : Int), 0, 0].map .int), .int 0, F (4, 1), F (1, 1), .int 10, .str "start"]] [(478, TabP lamQ [])] [(478, TabP lamQ lamPos)] (.bool true) := by
  rw [show ("a" : Str) = txt [97] by decide +kernel]
  have ht : Abc [97] := ⟨fun k h => by cases List.mem_singleton.mp h; exact .inl rfl, by decide, by decide⟩
  have hav : ∀ a ∈ [(2000 : Int), 0, 0], a.natAbs ≤ 3000 := by decide
  have hx : ("start" : Str) = "start" ∨ ("start" : Str) = "middle" ∨ ("start" : Str) = "end" := .inl rfl
  have hl := letters_bd ht (adv := [2000, 0, 0]) (kern := 0) (anchor := "start") rfl hav (by decide)
  have hz : ∀ t ∈ ts0, t.begin.natAbs < 2 ^ 20 ∧ (t.begin + t.len).natAbs < 2 ^ 20 ∧ t.len.natAbs < 2 ^ 20 ∧ 0 < t.len ∧ t.one.1.natAbs < 2 ^ 20 ∧ t.one.2.natAbs < 2 ^ 20 ∧ t.way.1.natAbs < 2 ^ 20 ∧ t.way.2.natAbs < 2 ^ 20 := by decide
  have htb : ∀ t ∈ ts0, SideB t := fun t h => by
    obtain ⟨h1, h2, h3, h4, h5, h6, h7, h8⟩ := hz t h
    exact ⟨h1, h2, h3, h4, h5, h6, h7, h8⟩
  have := c_law_right w hk hfo (es := []) (.inl rfl) ht (adv := [2000, 0, 0]) (kern := 0) (begin := (4, 1)) (size := (1, 1)) (grain := 10) rfl hx (sides0 w) (whole := 110) (by decide) (fun a h => bd_le (hav a h) rfl) hl.2.2 htb (by decide) ⟨bdc rfl, bdc rfl, by decide⟩ ⟨bdc rfl, bdc rfl, by decide⟩ (bdc rfl) (by decide) hl.2.1 hl.1
    (told_due ht rfl hx (vs_int 4) (by decide) (by decide) fun t h => (htb t h).p) [] []
  exact this
theorem c_script (w : World) {k1 k2 k3 k4 : Lam} (hk : LamOk k1 k2 k3 k4) (hfo : FontC k1 k2 k3 k4) {p : Int × Int} {ks : List Nat} (ht : Abc ks) {adv : List Int} (ha : adv.length = 3) (hav : ∀ a ∈ adv, a.natAbs ≤ 3000) {kern : Int} (hkn : kern.natAbs ≤ 1000)
    {begin size : Int × Int} {x : Rat} (hb : Vs begin x) (hst : Bz 6 begin) (hsz : Bz 3 size) {grain : Int} (hg : Bd 5 grain) (hgp : 0 < grain) {anchor : Str} (hx : anchor = "start" ∨ anchor = "middle" ∨ anchor = "end") (σ1 σ2 : Sg) :
    Fn w (.ref 505) 9 [.tup [.tup ((spotsP p).map P2), .bool (closedP p)], .lst ((sidesTo (roundOf (spotsP p) (closedP p)) ((roundOf (spotsP p) (closedP p)).length - 1)).1.map sideT), .int (sidesTo (roundOf (spotsP p) (closedP p)) ((roundOf (spotsP p) (closedP p)).length - 1)).2,
      .tup [.str (txt ks), .lst (adv.map .int), .int kern, F begin, F size, .int grain, .str anchor]] (σ1 ++ (478, TabP lamQ lamPos) :: σ2) (σ1 ++ (478, TabP lamQ lamPos) :: σ2) (.bool true) := by
  have hrl := round_len p
  have hsl : (spotsP p).length = turnsP p + 1 := walkP_len p _
  have htn := turnsP_le p
  have hso := sides_ok (R := roundOf (spotsP p) (closedP p)) (by omega) (round_way p) (round_bd p) ((roundOf (spotsP p) (closedP p)).length - 1) (by omega)
  have hl := letters_bd ht (adv := adv) (kern := kern) (anchor := anchor) ha hav hkn
  have hsd := fun σ => c_path_sides w (ps := spotsP p) (closed := closedP p) (by omega) (by omega) (closed_two p) (fun i h => (round_way p i h).good) σ
  have hsn := sidesTo_len (roundOf (spotsP p) (closedP p)) ((roundOf (spotsP p) (closedP p)).length - 1)
  exact c_law_right w hk hfo (es := lamPos) (.inr rfl) ht ha hx hsd (sides_last _ _) (fun a h => bd_le (hav a h) rfl) hl.2.2 hso.1 (by omega) hst hsz hg hgp hl.2.1 hl.1 (told_due ht ha hx hb hsz.p hgp fun t h => (hso.1 t h).p) σ1 σ2
set_option maxHeartbeats 4000000 in
theorem fin : PySem.Challenge.rw_pf0199_01.Holds := hd (by
  k_go0
  obtain ⟨k1, k2, k3, k4, hfo, hk⟩ := c_law_fontX
  with_reducible rename CodeHd _ _ _ => zC
  with_reducible rename Fr _ _ _ _ => zF
  with_reducible rename News _ _ _ _ => zN
  with_reducible rename IntsAre _ _ => zI
  with_reducible rename Top topProg _ _ _ _ _ => zT
  with_reducible rename (_ : Frag).In _ => zK
  with_reducible rename Heap.IsList (ghostOf _ _) _ _ => zL
  with_reducible rename _ = Data.cell _ => zD
  with_reducible rename Shared.gens _ = #[] => zG
  refine @law_join _ _ _ _ _ _ _ _ _ _ _ _ _ _ _ _ _ _ _ _ _ _ _ _ _ _ _ zK zT zC zF zN ?ne zL zI ?kind ?sc ?src ?m ?cl ?cell ?hA ?dep ?uni ?ex ?Q
  case ne => exact Nat.ne_of_gt (Nat.lt_succ_of_lt (by assumption))
  case kind => rfl
  case sc => rfl
  case src => rfl
  case m => rfl
  case hA => rfl
  case dep => show 301 + 1 + 16 < 1000; decide
  case uni => show 4 + 3 + 8 * 16 + 64 < cLine; decide
  case cl => rfl
  case cell => exact zD
  case Q =>
    intro f s' hv hkeep hgens hos hgr
    refine ⟨⟨.inl ⟨.bool true, .bool true, [], ?_, fun _ => rfl, .bool true, ?_, fun _ => ⟨.nil, nofun⟩⟩, hkeep, hos, hgens.trans zG⟩, hgr, True.intro⟩
    · cases f <;> exact congrArg (fun v => Except.ok (Flow.ret v)) hv
    · wrow_post
  case ex =>
    intro c hw hr
    subst hw
    with_reducible refine Ex.assign (σ1 := [(478, TabP lamQ [])]) (d := .tup [.tup [P2 (0, 0), P2 (30, 40), P2 (90, 40)], .bool false]) ?a1 ?a2 ?a3 ?a4
    case a1 => walk_at "ev"
    case a3 => rfl
    case a4 => intro _; rfl
    with_reducible refine Ex.assign (σ1 := [(478, TabP lamQ [])]) (d := .lst [sideT ⟨(0, 0), (30, 40), 50, 0⟩, sideT ⟨(30, 40), (60, 0), 60, 50⟩]) ?b1 ?b2 ?b3 ?b4
    case b1 => walk_at "ev"
    case b3 => rfl
    case b4 => intro _; rfl
    with_reducible refine Ex.if_ (σ1 := [(478, TabP lamQ lamPos)]) (b := !true) ?c1 ?c2 ?c3
    case c2 => exact fun h => by cases h
    case c1 =>
      with_reducible refine Tv.not (Tv.val ?d1 ?d2)
      case d2 => intros; rfl
      with_reducible refine Ev.call (gl_law_right _) ?e1 (c_fixed _ hk hfo) ?e3 ?e4 ?e5 ?e6 ?e7
      case e3 => omega
      case e4 => intros; rfl
      case e5 => decide
      case e6 => intro _; rfl
      case e7 => intros; rfl
      with_reducible refine' EvL.cons ?f1 (EvL.cons ?f2 (EvL.cons ?f3 (EvL.cons ?f4 EvL.nil ?f5) ?f6) ?f7) ?f8
      case f5 => intro _; rfl
      case f6 => intro _; rfl
      case f7 => intro _; rfl
      case f8 => intro _; rfl
      case f1 => exact Ev.name rfl
      case f2 => exact Ev.name rfl
      case f3 => exact Ev.int
      case f4 =>
        show Ev _ _ _ _ _ _ _ _ (.tup [.str "a", .lst [.int 2000, .int 0, .int 0], .int 0, F (4, 1), F (1, 1), .int 10, .str "start"])
        walk_at "ev"
    case c3 =>
      intro _
      with_reducible refine Ex.nil (NextP.then_ ?g1)
      have hsd : Fn c.w (.ref 405) 4 [.lst (ts0.map sideD), F (111, 1)] [(478, TabP lamQ lamPos)] [(478, TabP lamQ lamPos)] .none := by
        have hz : ∀ t ∈ ts0, t.begin.natAbs < 2 ^ 20 ∧ (t.begin + t.len).natAbs < 2 ^ 20 := by decide
        have := c_side_at c.w (k := 20) (ts := ts0) (q := (111, 1)) (fun t ht => hz t ht) ⟨bdc rfl, bdc rfl, by decide⟩ (by decide) (by decide) [(478, TabP lamQ lamPos)]
        rwa [show sideAt ts0 (111, 1) = none by decide +kernel] at this
      refine Ex.if_ (σ1 := [(478, TabP lamQ lamPos)]) (b := false || false) (Tv.or2 (σ1 := [(478, TabP lamQ lamPos)]) (p := false) (q := false) (Tv.cmp (Ev.call (gl_side_at _) (EvL.cons (Ev.call (gl_path_sides _) (EvL.cons (Ev.name rfl) EvL.nil) (sides0 _ _) (by omega)) (EvL.cons (d := F (111, 1)) (by walk_at "ev") EvL.nil)) hsd (by omega)) Ev.none (cmp_isNot (r := true) rfl))
        fun _ => Tv.cmp (Ev.call (gl_path_length _) (EvL.cons (Ev.list EvL.nil) EvL.nil) (c_path_length _ (ts := []) (by decide) _) (by omega)) Ev.int cmp_ne) (fun h => by cases h) fun _ => Ex.nil (NextP.then_ ?_)
      refine Ex.assignG (EvG.call (gl_law_source _) (EvL.cons (Ev.name rfl) EvL.nil) (c_law_source _ rfl rfl _) (by omega)) (fun σ' d hp => ?_) (.inr ⟨rfl, .unset, rfl, by intro d h; cases h⟩)
      obtain ⟨sd, rfl, rfl⟩ := hp
      generalize srcOf _ = p
      generalize hσt : [(478, TabP lamQ lamPos)] = σt
      refine Ex.unpack (σ1 := (sd, Src c.w (pathEnd p).1 (pathEnd p).2) :: σt) (Ev.call (gl_law_path _) (EvL.cons (Ev.nameC rfl) EvL.nil) (c_law_path _ (p := p) [] σt) (by omega)) (tg_tuple (Tgs.cons tg_name (Tgs.cons tg_name (Tgs.cons tg_name Tgs.nil)))) ?_
      generalize pathEnd p = q1
      have r1 := nxt_range q1 (top := 3) (by decide)
      obtain ⟨N, hN⟩ : ∃ N : Nat, 1 + (nxt q1 3).2 = (N : Int) := ⟨(1 + (nxt q1 3).2).toNat, by omega⟩
      generalize hq2 : (nxt q1 3).1 = q2
      have hM : (upTo N).length = N := upTo_length _
      have tx := textP_abc q2 (upTo N).length
      have ej := join_abc (l := (textP q2 (upTo N).length).2) (by omega) (by omega)
      refine Ex.assign (σ1 := (sd, Src c.w (textP q2 (upTo N).length).1.1 (textP q2 (upTo N).length).1.2) :: σt) (d := .str (txt (textP q2 (upTo N).length).2)) ?_ ?_
      · rw [← ej.2]
        refine Ev.join (ys := (textP q2 (upTo N).length).2.map fun k => ⟨#[k]⟩) Ev.str ?_ ej.1
        have e : ((textP q2 (upTo N).length).2.map fun k => (⟨#[k]⟩ : Str)).map D.str = (textP q2 (upTo N).length).2.map fun (k : Nat) => D.str ⟨#[k]⟩ := by rw [List.map_map]; rfl
        rw [e]
        refine Ev.comp (ds := upTo N) (fun i => (sd, Src c.w (textP q2 i).1.1 (textP q2 i).1.2) :: σt) (fun i => (textP q2 i).2.map fun (k : Nat) => D.str ⟨#[k]⟩)
          (EvIt.range (z := 1 + (nxt q1 3).2) (bt_range _) (Ev.bin Ev.int (Ev.call (gl_law_next _) (EvL.cons (Ev.nameC rfl) (EvL.cons Ev.int EvL.nil)) (by rw [← hq2]; exact c_law_next _ (by decide) (bdc rfl) [] σt) (by omega)) bin_add) hN (by omega)) rfl (fun i d hd => ?_) (by omega) (by walk_at "clos")
        obtain ⟨hi, rfl⟩ := upTo_is hd
        refine ⟨_, tgk_name, fun Zs E cl C hcl => ⟨true, E ++ (sd, Src c.w (textP q2 i).1.1 (textP q2 i).1.2) :: σt, Ts.nil, fun _ => ⟨.str ⟨#[97 + (nxt (textP q2 i).1 3).2.toNat]⟩, ?_, ?_⟩, fun h => by cases h⟩⟩
        · have hpk := c_law_pickS c.w (sd := sd) (p := (textP q2 i).1) (ks := [97, 98, 99]) (k := 97 + (nxt (textP q2 i).1 3).2.toNat) (by decide) (by decide) (by
            have hr3 := nxt_range (textP q2 i).1 (top := 3) (by decide)
            show [97, 98, 99][(nxt (textP q2 i).1 3).2.toNat]? = _
            have hz3 : (nxt (textP q2 i).1 3).2.toNat < 3 := by omega
            generalize (nxt (textP q2 i).1 3).2.toNat = z at hz3 ⊢
            have : z = 0 ∨ z = 1 ∨ z = 2 := by omega
            rcases this with rfl | rfl | rfl <;> rfl) E σt
          rw [show txt [97, 98, 99] = ("abc" : Str) by decide +kernel] at hpk
          exact Ev.call (gl_law_pick _) (EvL.cons (Ev.nameK rfl (hcl ("source", .free) (by decide) rfl)) (EvL.cons Ev.str EvL.nil)) hpk (by show 2 ≤ c.room; omega)
        · show ((textP q2 i).2 ++ [97 + (nxt (textP q2 i).1 3).2.toNat]).map _ = _
          rw [List.map_append]; rfl
      generalize hq3 : (textP q2 (upTo N).length).1 = q3
      have ad := advP_ok q3 (upTo 3).length
      have h3 : (upTo 3).length = 3 := upTo_length _
      refine Ex.comp (ds := upTo 3) (fun i => (sd, Src c.w (advP q3 i).1.1 (advP q3 i).1.2) :: σt) (fun i => (advP q3 i).2.map D.int) (EvIt.range (z := 3) (bt_range _) Ev.int rfl (by decide)) rfl (fun i d hd => ?_) ?_ (.inl rfl) (by omega) (by walk_at "clos")
      · obtain ⟨hi, rfl⟩ := upTo_is hd
        refine ⟨_, tgk_name, fun Zs E cl C hcl => ⟨true, E ++ (sd, Src c.w (advP q3 i).1.1 (advP q3 i).1.2) :: σt, Ts.nil, fun _ => ⟨.int (1000 * (nxt (advP q3 i).1 4).2), ?_, ?_⟩, fun h => by cases h⟩⟩
        · exact Ev.bin Ev.int (Ev.call (gl_law_next _) (EvL.cons (Ev.nameK rfl (hcl ("source", .free) (by decide) rfl)) (EvL.cons Ev.int EvL.nil)) (c_law_next _ (by decide) (bdc rfl) E σt) (by show 1 ≤ c.room; omega)) (bin_mul (IntMulOk.of_left (by decide)))
        · show ((advP q3 i).2 ++ [1000 * (nxt (advP q3 i).1 4).2]).map D.int = (advP q3 i).2.map D.int ++ [_]
          rw [List.map_append]; rfl
      generalize hq4 : (advP q3 (upTo 3).length).1 = q4
      have ks3 := kernOf_ok q4
      generalize hq5 : (nxt q4 3).1 = q5
      have gr := grainOf_ok q5
      generalize hq6 : (nxt q5 2).1 = q6
      refine Ex.assign2 (σ1 := (sd, Src c.w q6.1 q6.2) :: σt) (d1 := .int (kernOf q4)) (d2 := .int (grainOf q5))
        (EvL.cons (σ1 := (sd, Src c.w q5.1 q5.2) :: σt) (Ev.call (gl_law_pick _) (EvL.cons (Ev.nameC rfl) (EvL.cons (d := .lst ([(0 : Int), -500, 1000].map .int)) ?_ EvL.nil)) (by rw [← hq5]; exact c_pick _ [(0 : Int), -500, 1000] .int 0 rfl (by decide) (by decide) [] σt) (by omega))
        (EvL.cons (σ1 := (sd, Src c.w q6.1 q6.2) :: σt) (Ev.call (gl_law_pick _) (EvL.cons (Ev.nameC rfl) (EvL.cons (d := .lst ([(5 : Int), 10].map .int)) ?_ EvL.nil)) (by rw [← hq6]; exact c_pick _ [(5 : Int), 10] .int 5 rfl (by decide) (by decide) [] σt) (by omega)) EvL.nil)) ?_
      · show Ev _ _ _ ((sd, Src c.w q4.1 q4.2) :: σt) _ _ _ ((sd, Src c.w q4.1 q4.2) :: σt) (.lst [.int 0, .int (-500), .int 1000])
        walk_at "ev"
      · show Ev _ _ _ ((sd, Src c.w q5.1 q5.2) :: σt) _ _ _ ((sd, Src c.w q5.1 q5.2) :: σt) (.lst [.int 5, .int 10])
        walk_at "ev"
      have r6 := nxt_range q6 (top := 15) (by decide)
      generalize hq7 : (nxt q6 15).1 = q7
      have r7 := nxt_range q7 (top := 2) (by decide)
      generalize hq8 : (nxt q7 2).1 = q8
      have hbp : 0 < 1 + (nxt q7 2).2 := by omega
      have hbb : Bd 6 (1 + (nxt q7 2).2) := bd_le (m := 2) (by omega) rfl
      have hbt : Bd 6 ((nxt q6 15).2 - 2) := bd_le (m := 20) (by omega) rfl
      have hbz : Bz 6 (frac ((nxt q6 15).2 - 2) (1 + (nxt q7 2).2)) := Bz.frac hbt hbb hbp (Nat.le_refl _)
      have hne := cast_ne hbp
      have hbv : Vs (frac ((nxt q6 15).2 - 2) (1 + (nxt q7 2).2)) (((nxt q6 15).2 - 2 : Int) / ((1 + (nxt q7 2).2 : Int) : Rat)) := vs_frac hbp (by grind)
      refine Ex.assign (σ1 := (sd, Src c.w q8.1 q8.2) :: σt) (d := F (frac ((nxt q6 15).2 - 2) (1 + (nxt q7 2).2))) (Ev.call (gl_law_low _) (EvL.cons (σ1 := (sd, Src c.w q7.1 q7.2) :: σt) (Ev.bin (Ev.call (gl_law_next _) (EvL.cons (Ev.nameC rfl) (EvL.cons Ev.int EvL.nil)) (by rw [← hq7]; exact c_law_next _ (by decide) (bdc rfl) [] σt) (by omega)) Ev.int bin_sub)
        (EvL.cons (Ev.bin Ev.int (Ev.call (gl_law_next _) (EvL.cons (Ev.nameC rfl) (EvL.cons Ev.int EvL.nil)) (by rw [← hq8]; exact c_law_next _ (by decide) (bdc rfl) [] σt) (by omega)) bin_add) EvL.nil)) (c_law_low _ hbp hbb (by decide) _) (by omega)) ?_
      have sz := sizeOf_ok q8
      generalize hq9 : (nxt q8 3).1 = q9
      have an := anchorOf_ok q9
      generalize hq10 : (nxt q9 3).1 = q10
      refine Ex.assign2 (σ1 := (sd, Src c.w q10.1 q10.2) :: σt) (d1 := F (sizeOf' q8)) (d2 := .str (anchorOf q9))
        (EvL.cons (σ1 := (sd, Src c.w q9.1 q9.2) :: σt) (Ev.call (gl_law_pick _) (EvL.cons (Ev.nameC rfl) (EvL.cons (d := .lst ([((1, 1) : Int × Int), (2, 1), (1, 2)].map F)) ?_ EvL.nil)) (by rw [← hq9]; exact c_pick _ [((1, 1) : Int × Int), (2, 1), (1, 2)] F (1, 1) rfl (by decide) (by decide) [] σt) (by omega))
        (EvL.cons (σ1 := (sd, Src c.w q10.1 q10.2) :: σt) (Ev.call (gl_law_pick _) (EvL.cons (Ev.nameC rfl) (EvL.cons (d := .lst ([("start" : Str), "middle", "end"].map .str)) ?_ EvL.nil)) (by rw [← hq10]; exact c_pick _ [("start" : Str), "middle", "end"] .str "start" rfl (by decide) (by decide) [] σt) (by omega)) EvL.nil)) ?_
      · show Ev _ _ _ ((sd, Src c.w q8.1 q8.2) :: σt) _ _ _ ((sd, Src c.w q8.1 q8.2) :: σt) (.lst [F (1, 1), F (2, 1), F (1, 2)])
        walk_at "ev"
      · show Ev _ _ _ ((sd, Src c.w q9.1 q9.2) :: σt) _ _ _ ((sd, Src c.w q9.1 q9.2) :: σt) (.lst [.str "start", .str "middle", .str "end"])
        walk_at "ev"
      have abc : Abc (textP q2 (upTo N).length).2 := ⟨tx.2, by omega, by omega⟩
      subst hσt
      refine Ex.ret (σ1 := (sd, Src c.w q10.1 q10.2) :: [(478, TabP lamQ lamPos)]) (Ev.call (gl_law_right _) (EvL.cons (Ev.name rfl) (EvL.cons (Ev.name rfl) (EvL.cons (Ev.name rfl) (EvL.cons (Ev.tuple (EvL.cons (Ev.name rfl) (EvL.cons (Ev.name rfl) (EvL.cons (Ev.name rfl) (EvL.cons (Ev.name rfl) (EvL.cons (Ev.name rfl) (EvL.cons (Ev.name rfl) (EvL.cons (Ev.name rfl) EvL.nil)))))))) EvL.nil))))
        (c_script _ hk hfo (p := p) abc (ad.1.trans h3) ad.2 ks3 hbv hbz sz gr.2 gr.1 an [(sd, Src c.w q10.1 q10.2)] []) (by omega)) fun v s Fz => ⟨_, _, ⟨rfl, _, .tail _ (.head _), _, _, rfl⟩, Fz⟩)
end Mine
theorem PySem.Challenge.cw_pf0199_01_holds : PySem.Challenge.rw_pf0199_01.Holds :=
  Mine.fin
