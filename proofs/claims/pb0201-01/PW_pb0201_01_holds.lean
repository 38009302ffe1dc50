import PyProof.Rows.All
import Wide.All
import OpenK.AllK
import Wide.FinOn
import Lean
import PySem.Challenge.RW_pb0201_01
set_option Elab.async false
set_option maxRecDepth 100000
set_option maxHeartbeats 8000000
set_option linter.all false
namespace Mine
open PySem PySem.W PySem.Calls PyProof.Rows
noncomputable abbrev pw : Program := PySem.Challenge.pw_pb0201_01
noncomputable def st (i : Nat) : Stmt := pw.main.body.getD i (.Pass default)
noncomputable def mt (i j : Nat) : Stmt := match st i with
  | .ClassDef _ _ _ b _ _ _ _ _ _ _ => b.getD j (.Pass default)
  | _ => .Pass default
noncomputable def fnA : Stmt → Arguments
  | .FunctionDef _ a _ _ _ _ _ _ _ _ => a
  | _ => ⟨[], [], none, [], [], none, []⟩
noncomputable def fnB : Stmt → List Stmt
  | .FunctionDef _ _ b _ _ _ _ _ _ _ => b
  | _ => []
noncomputable def fnS : Stmt → Scope
  | .FunctionDef _ _ _ _ _ _ s _ _ _ => s
  | _ => { kind := .function, names := [], isGenerator := false, isCoroutine := false, more := [] }
noncomputable def sp : List Obj → List Obj × List Obj
  | [] => ([], [])
  | a :: r => (a :: (sp r).2, (sp r).1)
noncomputable def bt : Nat → List Obj → BT
  | 0, _ => .nil
  | _ + 1, [] => .nil
  | n + 1, x :: r => .node x (bt n (sp r).1) (bt n (sp r).2)
noncomputable abbrev en (P : Params) (x : Str) (t : Tok) (v : Value) : DictEntry := ⟨PyData.keyHash P x, .str x t, v⟩
noncomputable def a0 (P : Params) : Obj := ⟨(.type "tuple"), none, (.seq #[] 0), #[]⟩
noncomputable def a1 (P : Params) : Obj := ⟨.none, none, (.fields #[]), #[]⟩
noncomputable def a2 (P : Params) : Obj := ⟨(.type "code"), none, (.fields #[(.str "<module>" 182), (.str "<module>" 183), (.str "/claim/cut.py" 184), (.int 1 0), (.int 0 0), (.int 0 0), (.int 0 0), (.int 0 0), (.ref 11), (.bool false), (.int 181 0), (.ref 12), .none, .none, .none, .none, (.int 185 0), (.int 1 0), (.str "/claim/cut.py" 186)]), #[]⟩
noncomputable def a3 (P : Params) : Obj := ⟨(.type "frame"), none, .plain, #[(some (.ref 13)), (some (.ref 3)), (some (.ref 3)), none, (some (.str "__main__" 164)), none, (some (.ref 0))]⟩
noncomputable def a4 (P : Params) : Obj := ⟨.none, none, (.dict #[en P "type.__subclasses__.Exception.0" 234 (.int 48 0), en P "type.__subclasses__.Exception.n" 235 (.int 1 0)] 2), #[]⟩
noncomputable def a5 (P : Params) : Obj := ⟨(.type "dict"), none, (.dict #[en P "__name__" 165 (.str "joinedhand.errors" 194), en P "__doc__" 166 .none, en P "__package__" 167 .none, en P "__loader__" 168 (.builtin "__main__.__loader__#opaque"), en P "__spec__" 169 .none, en P "__annotations__" 170 (.ref 6), en P "__builtins__" 171 (.ref 4), en P "__file__" 173 (.str "/claim/cut.py" 172), en P "__cached__" 174 .none, en P "_wall" 193 (.ref 21), en P "ShapeError" 237 (.ref 48)] 11), #[]⟩
noncomputable def a6 (P : Params) : Obj := ⟨.none, none, (.fields #[(.int 1 0), (.int 0 0), (.ref 20), (.int 5 0), (.int 0 0), (.ref 28)]), #[]⟩
noncomputable def a7 (P : Params) : Obj := ⟨(.type "tuple"), none, (.seq #[] 0), #[]⟩
noncomputable def a8 (P : Params) : Obj := ⟨.none, none, (.fields #[]), #[]⟩
noncomputable def a9 (P : Params) : Obj := ⟨(.type "tuple"), none, (.seq #[(.str "k" 190)] 0), #[]⟩
noncomputable def a10 (P : Params) : Obj := ⟨(.type "tuple"), none, (.seq #[] 0), #[]⟩
noncomputable def a11 (P : Params) : Obj := ⟨.none, none, (.func ⟨"_wall", "_wall", fnA (st 0), .stmts (fnB (st 0)), fnS (st 0), 0, [], .none, .none, .none, .none, none, .none, .none, 0⟩), #[]⟩
noncomputable def a12 (P : Params) : Obj := ⟨(.type "code"), none, (.fields #[(.str "_wall" 187), (.str "_wall" 188), (.str "/claim/cut.py" 189), (.int 1 0), (.int 1 0), (.int 0 0), (.int 0 0), (.int 3 0), (.ref 15), (.bool true), (.int 181 0), (.ref 16), .none, (.ref 17), (.ref 18), (.ref 19), (.int 191 0), (.int 1 0), (.str "/claim/cut.py" 192)]), #[]⟩
noncomputable def a13 (P : Params) : Obj := ⟨(.type "function"), none, (.func ⟨"_wall", "_wall", fnA (st 0), .stmts (fnB (st 0)), fnS (st 0), 3, [], .none, .none, .none, (.str "__main__" 164), none, (.ref 20), .none, 0⟩), #[]⟩
noncomputable def a14 (P : Params) : Obj := ⟨(.type "tuple"), none, (.seq #[(.type "Exception")] 0), #[]⟩
noncomputable def a15 (P : Params) : Obj := ⟨(.type "builtin_function_or_method"), none, (.fields #[(.builtin "type.__prepare__"), (.type "type")]), #[]⟩
noncomputable def a16 (P : Params) : Obj := ⟨(.type "dict"), none, (.dict #[en P "__module__" 203 (.str "joinedhand.errors" 194), en P "__qualname__" 205 (.str "ShapeError" 204), en P "__firstlineno__" 207 (.int 5 206), en P "__init__" 219 (.ref 38), en P "told" 226 (.ref 45), en P "__static_attributes__" 229 (.ref 46), en P "__classcell__" 230 (.ref 25)] 7), #[]⟩
noncomputable def a17 (P : Params) : Obj := ⟨(.type "cell"), none, (.cell (some (.ref 48))), #[]⟩
noncomputable def a18 (P : Params) : Obj := ⟨(.type "tuple"), none, (.seq #[] 0), #[]⟩
noncomputable def a19 (P : Params) : Obj := ⟨.none, none, (.fields #[(.int 7 0), (.int 4 0), (.ref 37), (.int 12 0), (.int 4 0), (.ref 44)]), #[]⟩
noncomputable def a20 (P : Params) : Obj := ⟨(.type "code"), none, (.fields #[(.str "ShapeError" 198), (.str "ShapeError" 199), (.str "/claim/cut.py" 200), (.int 5 0), (.int 0 0), (.int 0 0), (.int 0 0), (.int 0 0), (.ref 26), (.bool false), (.int 181 0), (.ref 27), .none, .none, .none, .none, (.int 201 0), (.int 5 0), (.str "/claim/cut.py" 202)]), #[]⟩
noncomputable def a21 (P : Params) : Obj := ⟨(.type "frame"), none, .plain, #[(some (.ref 28)), (some (.ref 3)), (some (.ref 24)), none, (some (.str "joinedhand.errors" 194)), none, (some (.ref 0))]⟩
noncomputable def a22 (P : Params) : Obj := ⟨(.type "tuple"), none, (.seq #[(.int (-1) 209)] 0), #[]⟩
noncomputable def a23 (P : Params) : Obj := ⟨(.type "tuple"), none, (.seq #[(.ref 25)] 0), #[]⟩
noncomputable def a24 (P : Params) : Obj := ⟨(.type "tuple"), none, (.seq #[(.str "__class__" 213)] 0), #[]⟩
noncomputable def a25 (P : Params) : Obj := ⟨.none, none, (.fields #[]), #[]⟩
noncomputable def a26 (P : Params) : Obj := ⟨(.type "tuple"), none, (.seq #[(.str "self" 214), (.str "what" 215), (.str "at" 216)] 0), #[]⟩
noncomputable def a27 (P : Params) : Obj := ⟨(.type "tuple"), none, (.seq #[] 0), #[]⟩
noncomputable def a28 (P : Params) : Obj := ⟨.none, none, (.func ⟨"__init__", "ShapeError.__init__", fnA (mt 2 0), .stmts (fnB (mt 2 0)), fnS (mt 2 0), 0, [], .none, .none, .none, .none, none, .none, .none, 0⟩), #[]⟩
noncomputable def a29 (P : Params) : Obj := ⟨(.type "code"), none, (.fields #[(.str "__init__" 210), (.str "ShapeError.__init__" 211), (.str "/claim/cut.py" 212), (.int 7 0), (.int 3 0), (.int 0 0), (.int 0 0), (.int 3 0), (.ref 32), (.bool true), (.int 181 0), (.ref 33), .none, (.ref 34), (.ref 35), (.ref 36), (.int 217 0), (.int 7 0), (.str "/claim/cut.py" 218)]), #[]⟩
noncomputable def a30 (P : Params) : Obj := ⟨(.type "function"), none, (.func ⟨"__init__", "ShapeError.__init__", fnA (mt 2 0), .stmts (fnB (mt 2 0)), fnS (mt 2 0), 3, [("__class__", 25)], (.ref 30), .none, .none, (.str "joinedhand.errors" 194), none, (.ref 37), (.ref 31), 0⟩), #[]⟩
noncomputable def a31 (P : Params) : Obj := ⟨(.type "tuple"), none, (.seq #[] 0), #[]⟩
noncomputable def a32 (P : Params) : Obj := ⟨.none, none, (.fields #[]), #[]⟩
noncomputable def a33 (P : Params) : Obj := ⟨(.type "tuple"), none, (.seq #[(.str "self" 223)] 0), #[]⟩
noncomputable def a34 (P : Params) : Obj := ⟨(.type "tuple"), none, (.seq #[] 0), #[]⟩
noncomputable def a35 (P : Params) : Obj := ⟨.none, none, (.func ⟨"told", "ShapeError.told", fnA (mt 2 1), .stmts (fnB (mt 2 1)), fnS (mt 2 1), 0, [], .none, .none, .none, .none, none, .none, .none, 0⟩), #[]⟩
noncomputable def a36 (P : Params) : Obj := ⟨(.type "code"), none, (.fields #[(.str "told" 220), (.str "ShapeError.told" 221), (.str "/claim/cut.py" 222), (.int 12 0), (.int 1 0), (.int 0 0), (.int 0 0), (.int 3 0), (.ref 39), (.bool true), (.int 181 0), (.ref 40), .none, (.ref 41), (.ref 42), (.ref 43), (.int 224 0), (.int 12 0), (.str "/claim/cut.py" 225)]), #[]⟩
noncomputable def a37 (P : Params) : Obj := ⟨(.type "function"), none, (.func ⟨"told", "ShapeError.told", fnA (mt 2 1), .stmts (fnB (mt 2 1)), fnS (mt 2 1), 3, [], .none, .none, .none, (.str "joinedhand.errors" 194), none, (.ref 44), .none, 0⟩), #[]⟩
noncomputable def a38 (P : Params) : Obj := ⟨(.type "tuple"), none, (.seq #[(.str "at" 227), (.str "what" 228)] 0), #[]⟩
noncomputable def a39 (P : Params) : Obj := ⟨(.type "dict"), none, (.dict #[en P "__module__" 203 (.str "joinedhand.errors" 194), en P "__firstlineno__" 207 (.int 5 206), en P "__init__" 219 (.ref 38), en P "told" 226 (.ref 45), en P "__static_attributes__" 229 (.ref 46), en P "__weakref__" 232 (.ref 49), en P "__doc__" 233 .none] 4), #[]⟩
noncomputable def a40 (P : Params) : Obj := ⟨(.type "type"), none, (.cls ⟨"ShapeError", [(.type "Exception")], [(.ref 48), (.type "Exception"), (.type "BaseException"), (.type "object")], 47, "ShapeError", true, [], [], false, none, false⟩), #[(some (.ref 22)), none, (some (.str "ShapeError" 196)), (some (.str "ShapeError" 204)), (some (.builtin "Exception.__new__")), (some (.bool true))]⟩
noncomputable def a41 (P : Params) : Obj := ⟨(.type "getset_descriptor"), none, (.fields #[(.str "__weakref__" 231), (.ref 48), (.builtin "ExceptionGroup.__weakref__"), .none]), #[]⟩
noncomputable def a42 (P : Params) : Obj := ⟨(.type "super"), none, (.fields #[(.ref 48), (.ref 48), (.ref 48)]), #[]⟩
noncomputable def a43 (P : Params) : Obj := ⟨(.type "builtin_function_or_method"), none, (.fields #[(.builtin "object.__init_subclass__"), (.ref 48)]), #[]⟩
noncomputable def a44 (P : Params) : Obj := ⟨(.type "dict"), none, (.dict #[en P "__name__" 165 (.str "joinedhand.errors" 194), en P "__doc__" 166 .none, en P "__package__" 167 .none, en P "__loader__" 168 (.builtin "__main__.__loader__#opaque"), en P "__spec__" 169 .none, en P "__annotations__" 170 (.ref 6), en P "__builtins__" 171 (.ref 4), en P "__file__" 173 (.str "/claim/cut.py" 172), en P "__cached__" 174 .none, en P "_wall" 193 (.ref 21), en P "ShapeError" 237 (.ref 48), en P "TableFault" 253 (.ref 61)] 12), #[]⟩
noncomputable def a45 (P : Params) : Obj := ⟨.none, none, (.fields #[(.int 1 0), (.int 0 0), (.ref 20), (.int 5 0), (.int 0 0), (.ref 28), (.int 14 0), (.int 0 0), (.ref 57)]), #[]⟩
noncomputable def a46 (P : Params) : Obj := ⟨(.type "type"), none, (.cls ⟨"ShapeError", [(.type "Exception")], [(.ref 48), (.type "Exception"), (.type "BaseException"), (.type "object")], 47, "ShapeError", true, [], [(.ref 61)], false, none, false⟩), #[(some (.ref 22)), none, (some (.str "ShapeError" 196)), (some (.str "ShapeError" 204)), (some (.builtin "Exception.__new__")), (some (.bool true))]⟩
noncomputable def a47 (P : Params) : Obj := ⟨(.type "tuple"), none, (.seq #[(.ref 48)] 0), #[]⟩
noncomputable def a48 (P : Params) : Obj := ⟨(.type "builtin_function_or_method"), none, (.fields #[(.builtin "type.__prepare__"), (.type "type")]), #[]⟩
noncomputable def a49 (P : Params) : Obj := ⟨(.type "dict"), none, (.dict #[en P "__module__" 245 (.str "joinedhand.errors" 194), en P "__qualname__" 247 (.str "TableFault" 246), en P "__firstlineno__" 249 (.int 14 248), en P "__static_attributes__" 250 (.ref 59)] 4), #[]⟩
noncomputable def a50 (P : Params) : Obj := ⟨(.type "tuple"), none, (.seq #[] 0), #[]⟩
noncomputable def a51 (P : Params) : Obj := ⟨.none, none, (.fields #[]), #[]⟩
noncomputable def a52 (P : Params) : Obj := ⟨(.type "code"), none, (.fields #[(.str "TableFault" 240), (.str "TableFault" 241), (.str "/claim/cut.py" 242), (.int 14 0), (.int 0 0), (.int 0 0), (.int 0 0), (.int 0 0), (.ref 55), (.bool false), (.int 181 0), (.ref 56), .none, .none, .none, .none, (.int 243 0), (.int 14 0), (.str "/claim/cut.py" 244)]), #[]⟩
noncomputable def a53 (P : Params) : Obj := ⟨(.type "frame"), none, .plain, #[(some (.ref 57)), (some (.ref 3)), (some (.ref 54)), none, (some (.str "joinedhand.errors" 194)), none, (some (.ref 0))]⟩
noncomputable def a54 (P : Params) : Obj := ⟨(.type "tuple"), none, (.seq #[] 0), #[]⟩
noncomputable def a55 (P : Params) : Obj := ⟨(.type "dict"), none, (.dict #[en P "__module__" 245 (.str "joinedhand.errors" 194), en P "__firstlineno__" 249 (.int 14 248), en P "__static_attributes__" 250 (.ref 59), en P "__doc__" 251 .none] 2), #[]⟩
noncomputable def a56 (P : Params) : Obj := ⟨(.type "type"), none, (.cls ⟨"TableFault", [(.ref 48)], [(.ref 61), (.ref 48), (.type "Exception"), (.type "BaseException"), (.type "object")], 60, "TableFault", true, [], [], false, none, false⟩), #[(some (.ref 52)), none, (some (.str "TableFault" 238)), (some (.str "TableFault" 246)), (some (.builtin "Exception.__new__")), (some (.bool true))]⟩
noncomputable def a57 (P : Params) : Obj := ⟨(.type "super"), none, (.fields #[(.ref 61), (.ref 61), (.ref 61)]), #[]⟩
noncomputable def a58 (P : Params) : Obj := ⟨(.type "builtin_function_or_method"), none, (.fields #[(.builtin "object.__init_subclass__"), (.ref 61)]), #[]⟩
noncomputable def a59 (P : Params) : Obj := ⟨(.type "dict"), none, (.dict #[en P "__name__" 165 (.str "joinedhand.octets" 272), en P "__doc__" 166 .none, en P "__package__" 167 .none, en P "__loader__" 168 (.builtin "__main__.__loader__#opaque"), en P "__spec__" 169 .none, en P "__annotations__" 170 (.ref 6), en P "__builtins__" 171 (.ref 4), en P "__file__" 173 (.str "/claim/cut.py" 172), en P "__cached__" 174 .none, en P "_wall" 193 (.ref 21), en P "ShapeError" 237 (.ref 48), en P "TableFault" 253 (.ref 61), en P "FontFault" 269 (.ref 73), en P "USE_SET" 271 (.int 16 270), en P "check_room" 282 (.ref 82), en P "number_at" 293 (.ref 89), en P "u32_at" 301 (.ref 96)] 17), #[]⟩
noncomputable def a60 (P : Params) : Obj := ⟨.none, none, (.fields #[(.int 1 0), (.int 0 0), (.ref 20), (.int 5 0), (.int 0 0), (.ref 28), (.int 14 0), (.int 0 0), (.ref 57), (.int 16 0), (.int 0 0), (.ref 69), (.int 20 0), (.int 0 0), (.ref 81), (.int 23 0), (.int 0 0), (.ref 88), (.int 29 0), (.int 0 0), (.ref 95)]), #[]⟩
noncomputable def a61 (P : Params) : Obj := ⟨(.type "type"), none, (.cls ⟨"ShapeError", [(.type "Exception")], [(.ref 48), (.type "Exception"), (.type "BaseException"), (.type "object")], 47, "ShapeError", true, [], [(.ref 61), (.ref 73)], false, none, false⟩), #[(some (.ref 22)), none, (some (.str "ShapeError" 196)), (some (.str "ShapeError" 204)), (some (.builtin "Exception.__new__")), (some (.bool true))]⟩
noncomputable def a62 (P : Params) : Obj := ⟨(.type "tuple"), none, (.seq #[(.ref 48)] 0), #[]⟩
noncomputable def a63 (P : Params) : Obj := ⟨(.type "builtin_function_or_method"), none, (.fields #[(.builtin "type.__prepare__"), (.type "type")]), #[]⟩
noncomputable def a64 (P : Params) : Obj := ⟨(.type "dict"), none, (.dict #[en P "__module__" 261 (.str "joinedhand.errors" 194), en P "__qualname__" 263 (.str "FontFault" 262), en P "__firstlineno__" 265 (.int 16 264), en P "__static_attributes__" 266 (.ref 71)] 4), #[]⟩
noncomputable def a65 (P : Params) : Obj := ⟨(.type "tuple"), none, (.seq #[] 0), #[]⟩
noncomputable def a66 (P : Params) : Obj := ⟨.none, none, (.fields #[]), #[]⟩
noncomputable def a67 (P : Params) : Obj := ⟨(.type "code"), none, (.fields #[(.str "FontFault" 256), (.str "FontFault" 257), (.str "/claim/cut.py" 258), (.int 16 0), (.int 0 0), (.int 0 0), (.int 0 0), (.int 0 0), (.ref 67), (.bool false), (.int 181 0), (.ref 68), .none, .none, .none, .none, (.int 259 0), (.int 16 0), (.str "/claim/cut.py" 260)]), #[]⟩
noncomputable def a68 (P : Params) : Obj := ⟨(.type "frame"), none, .plain, #[(some (.ref 69)), (some (.ref 3)), (some (.ref 66)), none, (some (.str "joinedhand.errors" 194)), none, (some (.ref 0))]⟩
noncomputable def a69 (P : Params) : Obj := ⟨(.type "tuple"), none, (.seq #[] 0), #[]⟩
noncomputable def a70 (P : Params) : Obj := ⟨(.type "dict"), none, (.dict #[en P "__module__" 261 (.str "joinedhand.errors" 194), en P "__firstlineno__" 265 (.int 16 264), en P "__static_attributes__" 266 (.ref 71), en P "__doc__" 267 .none] 2), #[]⟩
noncomputable def a71 (P : Params) : Obj := ⟨(.type "type"), none, (.cls ⟨"FontFault", [(.ref 48)], [(.ref 73), (.ref 48), (.type "Exception"), (.type "BaseException"), (.type "object")], 72, "FontFault", true, [], [], false, none, false⟩), #[(some (.ref 64)), none, (some (.str "FontFault" 254)), (some (.str "FontFault" 262)), (some (.builtin "Exception.__new__")), (some (.bool true))]⟩
noncomputable def a72 (P : Params) : Obj := ⟨(.type "super"), none, (.fields #[(.ref 73), (.ref 73), (.ref 73)]), #[]⟩
noncomputable def a73 (P : Params) : Obj := ⟨(.type "builtin_function_or_method"), none, (.fields #[(.builtin "object.__init_subclass__"), (.ref 73)]), #[]⟩
noncomputable def a74 (P : Params) : Obj := ⟨(.type "tuple"), none, (.seq #[] 0), #[]⟩
noncomputable def a75 (P : Params) : Obj := ⟨.none, none, (.fields #[]), #[]⟩
noncomputable def a76 (P : Params) : Obj := ⟨(.type "tuple"), none, (.seq #[(.str "data" 277), (.str "at" 278), (.str "count" 279)] 0), #[]⟩
noncomputable def a77 (P : Params) : Obj := ⟨(.type "tuple"), none, (.seq #[] 0), #[]⟩
noncomputable def a78 (P : Params) : Obj := ⟨.none, none, (.func ⟨"check_room", "check_room", fnA (st 7), .stmts (fnB (st 7)), fnS (st 7), 0, [], .none, .none, .none, .none, none, .none, .none, 0⟩), #[]⟩
noncomputable def a79 (P : Params) : Obj := ⟨(.type "code"), none, (.fields #[(.str "check_room" 274), (.str "check_room" 275), (.str "/claim/cut.py" 276), (.int 20 0), (.int 3 0), (.int 0 0), (.int 0 0), (.int 3 0), (.ref 76), (.bool true), (.int 181 0), (.ref 77), .none, (.ref 78), (.ref 79), (.ref 80), (.int 280 0), (.int 20 0), (.str "/claim/cut.py" 281)]), #[]⟩
noncomputable def a80 (P : Params) : Obj := ⟨(.type "function"), none, (.func ⟨"check_room", "check_room", fnA (st 7), .stmts (fnB (st 7)), fnS (st 7), 3, [], .none, .none, .none, (.str "joinedhand.octets" 272), none, (.ref 81), .none, 0⟩), #[]⟩
noncomputable def a81 (P : Params) : Obj := ⟨(.type "tuple"), none, (.seq #[] 0), #[]⟩
noncomputable def a82 (P : Params) : Obj := ⟨.none, none, (.fields #[]), #[]⟩
noncomputable def a83 (P : Params) : Obj := ⟨(.type "tuple"), none, (.seq #[(.str "data" 286), (.str "at" 287), (.str "count" 288), (.str "total" 289), (.str "code" 290)] 0), #[]⟩
noncomputable def a84 (P : Params) : Obj := ⟨(.type "tuple"), none, (.seq #[] 0), #[]⟩
noncomputable def a85 (P : Params) : Obj := ⟨.none, none, (.func ⟨"number_at", "number_at", fnA (st 8), .stmts (fnB (st 8)), fnS (st 8), 0, [], .none, .none, .none, .none, none, .none, .none, 0⟩), #[]⟩
noncomputable def a86 (P : Params) : Obj := ⟨(.type "code"), none, (.fields #[(.str "number_at" 283), (.str "number_at" 284), (.str "/claim/cut.py" 285), (.int 23 0), (.int 3 0), (.int 0 0), (.int 0 0), (.int 3 0), (.ref 83), (.bool true), (.int 181 0), (.ref 84), .none, (.ref 85), (.ref 86), (.ref 87), (.int 291 0), (.int 23 0), (.str "/claim/cut.py" 292)]), #[]⟩
noncomputable def a87 (P : Params) : Obj := ⟨(.type "function"), none, (.func ⟨"number_at", "number_at", fnA (st 8), .stmts (fnB (st 8)), fnS (st 8), 3, [], .none, .none, .none, (.str "joinedhand.octets" 272), none, (.ref 88), .none, 0⟩), #[]⟩
noncomputable def a88 (P : Params) : Obj := ⟨(.type "tuple"), none, (.seq #[] 0), #[]⟩
noncomputable def a89 (P : Params) : Obj := ⟨.none, none, (.fields #[]), #[]⟩
noncomputable def a90 (P : Params) : Obj := ⟨(.type "tuple"), none, (.seq #[(.str "data" 297), (.str "at" 298)] 0), #[]⟩
noncomputable def a91 (P : Params) : Obj := ⟨(.type "tuple"), none, (.seq #[] 0), #[]⟩
noncomputable def a92 (P : Params) : Obj := ⟨.none, none, (.func ⟨"u32_at", "u32_at", fnA (st 9), .stmts (fnB (st 9)), fnS (st 9), 0, [], .none, .none, .none, .none, none, .none, .none, 0⟩), #[]⟩
noncomputable def a93 (P : Params) : Obj := ⟨(.type "code"), none, (.fields #[(.str "u32_at" 294), (.str "u32_at" 295), (.str "/claim/cut.py" 296), (.int 29 0), (.int 2 0), (.int 0 0), (.int 0 0), (.int 3 0), (.ref 90), (.bool true), (.int 181 0), (.ref 91), .none, (.ref 92), (.ref 93), (.ref 94), (.int 299 0), (.int 29 0), (.str "/claim/cut.py" 300)]), #[]⟩
noncomputable def a94 (P : Params) : Obj := ⟨(.type "function"), none, (.func ⟨"u32_at", "u32_at", fnA (st 9), .stmts (fnB (st 9)), fnS (st 9), 3, [], .none, .none, .none, (.str "joinedhand.octets" 272), none, (.ref 95), .none, 0⟩), #[]⟩
noncomputable def a95 (P : Params) : Obj := ⟨(.type "dict"), none, (.dict #[en P "__name__" 165 (.str "joinedhand.octets" 272), en P "__doc__" 166 .none, en P "__package__" 167 .none, en P "__loader__" 168 (.builtin "__main__.__loader__#opaque"), en P "__spec__" 169 .none, en P "__annotations__" 170 (.ref 6), en P "__builtins__" 171 (.ref 4), en P "__file__" 173 (.str "/claim/cut.py" 172), en P "__cached__" 174 .none, en P "_wall" 193 (.ref 21), en P "ShapeError" 237 (.ref 48), en P "TableFault" 253 (.ref 61), en P "FontFault" 269 (.ref 73), en P "USE_SET" 271 (.int 16 270), en P "check_room" 282 (.ref 82), en P "number_at" 293 (.ref 89), en P "u32_at" 301 (.ref 96), en P "OctetsIn" 405 (.ref 180)] 18), #[]⟩
noncomputable def a96 (P : Params) : Obj := ⟨.none, none, (.fields #[(.int 1 0), (.int 0 0), (.ref 20), (.int 5 0), (.int 0 0), (.ref 28), (.int 14 0), (.int 0 0), (.ref 57), (.int 16 0), (.int 0 0), (.ref 69), (.int 20 0), (.int 0 0), (.ref 81), (.int 23 0), (.int 0 0), (.ref 88), (.int 29 0), (.int 0 0), (.ref 95), (.int 31 0), (.int 0 0), (.ref 102)]), #[]⟩
noncomputable def a97 (P : Params) : Obj := ⟨(.type "tuple"), none, (.seq #[] 0), #[]⟩
noncomputable def a98 (P : Params) : Obj := ⟨(.type "builtin_function_or_method"), none, (.fields #[(.builtin "type.__prepare__"), (.type "type")]), #[]⟩
noncomputable def a99 (P : Params) : Obj := ⟨(.type "dict"), none, (.dict #[en P "__module__" 309 (.str "joinedhand.octets" 272), en P "__qualname__" 311 (.str "OctetsIn" 310), en P "__firstlineno__" 313 (.int 31 312), en P "__init__" 323 (.ref 111), en P "need" 331 (.ref 118), en P "number" 340 (.ref 125), en P "u8" 347 (.ref 132), en P "u16" 354 (.ref 139), en P "i16" 361 (.ref 146), en P "u24" 368 (.ref 153), en P "u32" 375 (.ref 160), en P "tag" 381 (.ref 165), en P "rows" 387 (.ref 170), en P "here" 395 (.ref 177), en P "__static_attributes__" 398 (.ref 178)] 15), #[]⟩
noncomputable def a100 (P : Params) : Obj := ⟨(.type "tuple"), none, (.seq #[] 0), #[]⟩
noncomputable def a101 (P : Params) : Obj := ⟨.none, none, (.fields #[(.int 33 0), (.int 4 0), (.ref 110), (.int 37 0), (.int 4 0), (.ref 117), (.int 40 0), (.int 4 0), (.ref 124), (.int 45 0), (.int 4 0), (.ref 131), (.int 48 0), (.int 4 0), (.ref 138), (.int 51 0), (.int 4 0), (.ref 145), (.int 54 0), (.int 4 0), (.ref 152), (.int 57 0), (.int 4 0), (.ref 159), (.int 60 0), (.int 4 0), (.ref 164), (.int 66 0), (.int 4 0), (.ref 169), (.int 70 0), (.int 4 0), (.ref 176)]), #[]⟩
noncomputable def a102 (P : Params) : Obj := ⟨(.type "code"), none, (.fields #[(.str "OctetsIn" 304), (.str "OctetsIn" 305), (.str "/claim/cut.py" 306), (.int 31 0), (.int 0 0), (.int 0 0), (.int 0 0), (.int 0 0), (.ref 100), (.bool false), (.int 181 0), (.ref 101), .none, .none, .none, .none, (.int 307 0), (.int 31 0), (.str "/claim/cut.py" 308)]), #[]⟩
noncomputable def a103 (P : Params) : Obj := ⟨(.type "frame"), none, .plain, #[(some (.ref 102)), (some (.ref 3)), (some (.ref 99)), none, (some (.str "joinedhand.octets" 272)), none, (some (.ref 0))]⟩
noncomputable def a104 (P : Params) : Obj := ⟨(.type "tuple"), none, (.seq #[(.int 0 314)] 0), #[]⟩
noncomputable def a105 (P : Params) : Obj := ⟨(.type "tuple"), none, (.seq #[] 0), #[]⟩
noncomputable def a106 (P : Params) : Obj := ⟨.none, none, (.fields #[]), #[]⟩
noncomputable def a107 (P : Params) : Obj := ⟨(.type "tuple"), none, (.seq #[(.str "self" 318), (.str "data" 319), (.str "at" 320)] 0), #[]⟩
noncomputable def a108 (P : Params) : Obj := ⟨(.type "tuple"), none, (.seq #[] 0), #[]⟩
noncomputable def a109 (P : Params) : Obj := ⟨.none, none, (.func ⟨"__init__", "OctetsIn.__init__", fnA (mt 10 0), .stmts (fnB (mt 10 0)), fnS (mt 10 0), 0, [], .none, .none, .none, .none, none, .none, .none, 0⟩), #[]⟩
noncomputable def a110 (P : Params) : Obj := ⟨(.type "code"), none, (.fields #[(.str "__init__" 315), (.str "OctetsIn.__init__" 316), (.str "/claim/cut.py" 317), (.int 33 0), (.int 3 0), (.int 0 0), (.int 0 0), (.int 3 0), (.ref 105), (.bool true), (.int 181 0), (.ref 106), .none, (.ref 107), (.ref 108), (.ref 109), (.int 321 0), (.int 33 0), (.str "/claim/cut.py" 322)]), #[]⟩
noncomputable def a111 (P : Params) : Obj := ⟨(.type "function"), none, (.func ⟨"__init__", "OctetsIn.__init__", fnA (mt 10 0), .stmts (fnB (mt 10 0)), fnS (mt 10 0), 3, [], (.ref 104), .none, .none, (.str "joinedhand.octets" 272), none, (.ref 110), .none, 0⟩), #[]⟩
noncomputable def a112 (P : Params) : Obj := ⟨(.type "tuple"), none, (.seq #[] 0), #[]⟩
noncomputable def a113 (P : Params) : Obj := ⟨.none, none, (.fields #[]), #[]⟩
noncomputable def a114 (P : Params) : Obj := ⟨(.type "tuple"), none, (.seq #[(.str "self" 327), (.str "count" 328)] 0), #[]⟩
noncomputable def a115 (P : Params) : Obj := ⟨(.type "tuple"), none, (.seq #[] 0), #[]⟩
noncomputable def a116 (P : Params) : Obj := ⟨.none, none, (.func ⟨"need", "OctetsIn.need", fnA (mt 10 1), .stmts (fnB (mt 10 1)), fnS (mt 10 1), 0, [], .none, .none, .none, .none, none, .none, .none, 0⟩), #[]⟩
noncomputable def a117 (P : Params) : Obj := ⟨(.type "code"), none, (.fields #[(.str "need" 324), (.str "OctetsIn.need" 325), (.str "/claim/cut.py" 326), (.int 37 0), (.int 2 0), (.int 0 0), (.int 0 0), (.int 3 0), (.ref 112), (.bool true), (.int 181 0), (.ref 113), .none, (.ref 114), (.ref 115), (.ref 116), (.int 329 0), (.int 37 0), (.str "/claim/cut.py" 330)]), #[]⟩
noncomputable def a118 (P : Params) : Obj := ⟨(.type "function"), none, (.func ⟨"need", "OctetsIn.need", fnA (mt 10 1), .stmts (fnB (mt 10 1)), fnS (mt 10 1), 3, [], .none, .none, .none, (.str "joinedhand.octets" 272), none, (.ref 117), .none, 0⟩), #[]⟩
noncomputable def a119 (P : Params) : Obj := ⟨(.type "tuple"), none, (.seq #[] 0), #[]⟩
noncomputable def a120 (P : Params) : Obj := ⟨.none, none, (.fields #[]), #[]⟩
noncomputable def a121 (P : Params) : Obj := ⟨(.type "tuple"), none, (.seq #[(.str "self" 335), (.str "count" 336), (.str "found" 337)] 0), #[]⟩
noncomputable def a122 (P : Params) : Obj := ⟨(.type "tuple"), none, (.seq #[] 0), #[]⟩
noncomputable def a123 (P : Params) : Obj := ⟨.none, none, (.func ⟨"number", "OctetsIn.number", fnA (mt 10 2), .stmts (fnB (mt 10 2)), fnS (mt 10 2), 0, [], .none, .none, .none, .none, none, .none, .none, 0⟩), #[]⟩
noncomputable def a124 (P : Params) : Obj := ⟨(.type "code"), none, (.fields #[(.str "number" 332), (.str "OctetsIn.number" 333), (.str "/claim/cut.py" 334), (.int 40 0), (.int 2 0), (.int 0 0), (.int 0 0), (.int 3 0), (.ref 119), (.bool true), (.int 181 0), (.ref 120), .none, (.ref 121), (.ref 122), (.ref 123), (.int 338 0), (.int 40 0), (.str "/claim/cut.py" 339)]), #[]⟩
noncomputable def a125 (P : Params) : Obj := ⟨(.type "function"), none, (.func ⟨"number", "OctetsIn.number", fnA (mt 10 2), .stmts (fnB (mt 10 2)), fnS (mt 10 2), 3, [], .none, .none, .none, (.str "joinedhand.octets" 272), none, (.ref 124), .none, 0⟩), #[]⟩
noncomputable def a126 (P : Params) : Obj := ⟨(.type "tuple"), none, (.seq #[] 0), #[]⟩
noncomputable def a127 (P : Params) : Obj := ⟨.none, none, (.fields #[]), #[]⟩
noncomputable def a128 (P : Params) : Obj := ⟨(.type "tuple"), none, (.seq #[(.str "self" 344)] 0), #[]⟩
noncomputable def a129 (P : Params) : Obj := ⟨(.type "tuple"), none, (.seq #[] 0), #[]⟩
noncomputable def a130 (P : Params) : Obj := ⟨.none, none, (.func ⟨"u8", "OctetsIn.u8", fnA (mt 10 3), .stmts (fnB (mt 10 3)), fnS (mt 10 3), 0, [], .none, .none, .none, .none, none, .none, .none, 0⟩), #[]⟩
noncomputable def a131 (P : Params) : Obj := ⟨(.type "code"), none, (.fields #[(.str "u8" 341), (.str "OctetsIn.u8" 342), (.str "/claim/cut.py" 343), (.int 45 0), (.int 1 0), (.int 0 0), (.int 0 0), (.int 3 0), (.ref 126), (.bool true), (.int 181 0), (.ref 127), .none, (.ref 128), (.ref 129), (.ref 130), (.int 345 0), (.int 45 0), (.str "/claim/cut.py" 346)]), #[]⟩
noncomputable def a132 (P : Params) : Obj := ⟨(.type "function"), none, (.func ⟨"u8", "OctetsIn.u8", fnA (mt 10 3), .stmts (fnB (mt 10 3)), fnS (mt 10 3), 3, [], .none, .none, .none, (.str "joinedhand.octets" 272), none, (.ref 131), .none, 0⟩), #[]⟩
noncomputable def a133 (P : Params) : Obj := ⟨(.type "tuple"), none, (.seq #[] 0), #[]⟩
noncomputable def a134 (P : Params) : Obj := ⟨.none, none, (.fields #[]), #[]⟩
noncomputable def a135 (P : Params) : Obj := ⟨(.type "tuple"), none, (.seq #[(.str "self" 351)] 0), #[]⟩
noncomputable def a136 (P : Params) : Obj := ⟨(.type "tuple"), none, (.seq #[] 0), #[]⟩
noncomputable def a137 (P : Params) : Obj := ⟨.none, none, (.func ⟨"u16", "OctetsIn.u16", fnA (mt 10 4), .stmts (fnB (mt 10 4)), fnS (mt 2 1), 0, [], .none, .none, .none, .none, none, .none, .none, 0⟩), #[]⟩
noncomputable def a138 (P : Params) : Obj := ⟨(.type "code"), none, (.fields #[(.str "u16" 348), (.str "OctetsIn.u16" 349), (.str "/claim/cut.py" 350), (.int 48 0), (.int 1 0), (.int 0 0), (.int 0 0), (.int 3 0), (.ref 133), (.bool true), (.int 181 0), (.ref 134), .none, (.ref 135), (.ref 136), (.ref 137), (.int 352 0), (.int 48 0), (.str "/claim/cut.py" 353)]), #[]⟩
noncomputable def a139 (P : Params) : Obj := ⟨(.type "function"), none, (.func ⟨"u16", "OctetsIn.u16", fnA (mt 10 4), .stmts (fnB (mt 10 4)), fnS (mt 2 1), 3, [], .none, .none, .none, (.str "joinedhand.octets" 272), none, (.ref 138), .none, 0⟩), #[]⟩
noncomputable def a140 (P : Params) : Obj := ⟨(.type "tuple"), none, (.seq #[] 0), #[]⟩
noncomputable def a141 (P : Params) : Obj := ⟨.none, none, (.fields #[]), #[]⟩
noncomputable def a142 (P : Params) : Obj := ⟨(.type "tuple"), none, (.seq #[(.str "self" 358)] 0), #[]⟩
noncomputable def a143 (P : Params) : Obj := ⟨(.type "tuple"), none, (.seq #[] 0), #[]⟩
noncomputable def a144 (P : Params) : Obj := ⟨.none, none, (.func ⟨"i16", "OctetsIn.i16", fnA (mt 10 5), .stmts (fnB (mt 10 5)), fnS (mt 10 3), 0, [], .none, .none, .none, .none, none, .none, .none, 0⟩), #[]⟩
noncomputable def a145 (P : Params) : Obj := ⟨(.type "code"), none, (.fields #[(.str "i16" 355), (.str "OctetsIn.i16" 356), (.str "/claim/cut.py" 357), (.int 51 0), (.int 1 0), (.int 0 0), (.int 0 0), (.int 3 0), (.ref 140), (.bool true), (.int 181 0), (.ref 141), .none, (.ref 142), (.ref 143), (.ref 144), (.int 359 0), (.int 51 0), (.str "/claim/cut.py" 360)]), #[]⟩
noncomputable def a146 (P : Params) : Obj := ⟨(.type "function"), none, (.func ⟨"i16", "OctetsIn.i16", fnA (mt 10 5), .stmts (fnB (mt 10 5)), fnS (mt 10 3), 3, [], .none, .none, .none, (.str "joinedhand.octets" 272), none, (.ref 145), .none, 0⟩), #[]⟩
noncomputable def a147 (P : Params) : Obj := ⟨(.type "tuple"), none, (.seq #[] 0), #[]⟩
noncomputable def a148 (P : Params) : Obj := ⟨.none, none, (.fields #[]), #[]⟩
noncomputable def a149 (P : Params) : Obj := ⟨(.type "tuple"), none, (.seq #[(.str "self" 365)] 0), #[]⟩
noncomputable def a150 (P : Params) : Obj := ⟨(.type "tuple"), none, (.seq #[] 0), #[]⟩
noncomputable def a151 (P : Params) : Obj := ⟨.none, none, (.func ⟨"u24", "OctetsIn.u24", fnA (mt 10 6), .stmts (fnB (mt 10 6)), fnS (mt 10 3), 0, [], .none, .none, .none, .none, none, .none, .none, 0⟩), #[]⟩
noncomputable def a152 (P : Params) : Obj := ⟨(.type "code"), none, (.fields #[(.str "u24" 362), (.str "OctetsIn.u24" 363), (.str "/claim/cut.py" 364), (.int 54 0), (.int 1 0), (.int 0 0), (.int 0 0), (.int 3 0), (.ref 147), (.bool true), (.int 181 0), (.ref 148), .none, (.ref 149), (.ref 150), (.ref 151), (.int 366 0), (.int 54 0), (.str "/claim/cut.py" 367)]), #[]⟩
noncomputable def a153 (P : Params) : Obj := ⟨(.type "function"), none, (.func ⟨"u24", "OctetsIn.u24", fnA (mt 10 6), .stmts (fnB (mt 10 6)), fnS (mt 10 3), 3, [], .none, .none, .none, (.str "joinedhand.octets" 272), none, (.ref 152), .none, 0⟩), #[]⟩
noncomputable def a154 (P : Params) : Obj := ⟨(.type "tuple"), none, (.seq #[] 0), #[]⟩
noncomputable def a155 (P : Params) : Obj := ⟨.none, none, (.fields #[]), #[]⟩
noncomputable def a156 (P : Params) : Obj := ⟨(.type "tuple"), none, (.seq #[(.str "self" 372)] 0), #[]⟩
noncomputable def a157 (P : Params) : Obj := ⟨(.type "tuple"), none, (.seq #[] 0), #[]⟩
noncomputable def a158 (P : Params) : Obj := ⟨.none, none, (.func ⟨"u32", "OctetsIn.u32", fnA (mt 10 7), .stmts (fnB (mt 10 7)), fnS (mt 2 1), 0, [], .none, .none, .none, .none, none, .none, .none, 0⟩), #[]⟩
noncomputable def a159 (P : Params) : Obj := ⟨(.type "code"), none, (.fields #[(.str "u32" 369), (.str "OctetsIn.u32" 370), (.str "/claim/cut.py" 371), (.int 57 0), (.int 1 0), (.int 0 0), (.int 0 0), (.int 3 0), (.ref 154), (.bool true), (.int 181 0), (.ref 155), .none, (.ref 156), (.ref 157), (.ref 158), (.int 373 0), (.int 57 0), (.str "/claim/cut.py" 374)]), #[]⟩
noncomputable def a160 (P : Params) : Obj := ⟨(.type "function"), none, (.func ⟨"u32", "OctetsIn.u32", fnA (mt 10 7), .stmts (fnB (mt 10 7)), fnS (mt 2 1), 3, [], .none, .none, .none, (.str "joinedhand.octets" 272), none, (.ref 159), .none, 0⟩), #[]⟩
noncomputable def a161 (P : Params) : Obj := ⟨(.type "tuple"), none, (.seq #[] 0), #[]⟩
noncomputable def a162 (P : Params) : Obj := ⟨.none, none, (.fields #[]), #[]⟩
noncomputable def a163 (P : Params) : Obj := ⟨.none, none, (.func ⟨"tag", "OctetsIn.tag", fnA (mt 10 8), .stmts (fnB (mt 10 8)), fnS (mt 10 8), 0, [], .none, .none, .none, .none, none, .none, .none, 0⟩), #[]⟩
noncomputable def a164 (P : Params) : Obj := ⟨(.type "code"), none, (.fields #[(.str "tag" 376), (.str "OctetsIn.tag" 377), (.str "/claim/cut.py" 378), (.int 60 0), (.int 1 0), (.int 0 0), (.int 0 0), (.int 3 0), (.ref 161), (.bool true), (.int 181 0), (.ref 162), .none, .none, .none, (.ref 163), (.int 379 0), (.int 60 0), (.str "/claim/cut.py" 380)]), #[]⟩
noncomputable def a165 (P : Params) : Obj := ⟨(.type "function"), none, (.func ⟨"tag", "OctetsIn.tag", fnA (mt 10 8), .stmts (fnB (mt 10 8)), fnS (mt 10 8), 3, [], .none, .none, .none, (.str "joinedhand.octets" 272), none, (.ref 164), .none, 0⟩), #[]⟩
noncomputable def a166 (P : Params) : Obj := ⟨(.type "tuple"), none, (.seq #[] 0), #[]⟩
noncomputable def a167 (P : Params) : Obj := ⟨.none, none, (.fields #[]), #[]⟩
noncomputable def a168 (P : Params) : Obj := ⟨.none, none, (.func ⟨"rows", "OctetsIn.rows", fnA (mt 10 9), .stmts (fnB (mt 10 9)), fnS (mt 10 9), 0, [], .none, .none, .none, .none, none, .none, .none, 0⟩), #[]⟩
noncomputable def a169 (P : Params) : Obj := ⟨(.type "code"), none, (.fields #[(.str "rows" 382), (.str "OctetsIn.rows" 383), (.str "/claim/cut.py" 384), (.int 66 0), (.int 2 0), (.int 0 0), (.int 0 0), (.int 3 0), (.ref 166), (.bool true), (.int 181 0), (.ref 167), .none, .none, .none, (.ref 168), (.int 385 0), (.int 66 0), (.str "/claim/cut.py" 386)]), #[]⟩
noncomputable def a170 (P : Params) : Obj := ⟨(.type "function"), none, (.func ⟨"rows", "OctetsIn.rows", fnA (mt 10 9), .stmts (fnB (mt 10 9)), fnS (mt 10 9), 3, [], .none, .none, .none, (.str "joinedhand.octets" 272), none, (.ref 169), .none, 0⟩), #[]⟩
noncomputable def a171 (P : Params) : Obj := ⟨(.type "tuple"), none, (.seq #[] 0), #[]⟩
noncomputable def a172 (P : Params) : Obj := ⟨.none, none, (.fields #[]), #[]⟩
noncomputable def a173 (P : Params) : Obj := ⟨(.type "tuple"), none, (.seq #[(.str "self" 391), (.str "offset" 392)] 0), #[]⟩
noncomputable def a174 (P : Params) : Obj := ⟨(.type "tuple"), none, (.seq #[] 0), #[]⟩
noncomputable def a175 (P : Params) : Obj := ⟨.none, none, (.func ⟨"here", "OctetsIn.here", fnA (mt 10 10), .stmts (fnB (mt 10 10)), fnS (mt 10 10), 0, [], .none, .none, .none, .none, none, .none, .none, 0⟩), #[]⟩
noncomputable def a176 (P : Params) : Obj := ⟨(.type "code"), none, (.fields #[(.str "here" 388), (.str "OctetsIn.here" 389), (.str "/claim/cut.py" 390), (.int 70 0), (.int 2 0), (.int 0 0), (.int 0 0), (.int 3 0), (.ref 171), (.bool true), (.int 181 0), (.ref 172), .none, (.ref 173), (.ref 174), (.ref 175), (.int 393 0), (.int 70 0), (.str "/claim/cut.py" 394)]), #[]⟩
noncomputable def a177 (P : Params) : Obj := ⟨(.type "function"), none, (.func ⟨"here", "OctetsIn.here", fnA (mt 10 10), .stmts (fnB (mt 10 10)), fnS (mt 10 10), 3, [], .none, .none, .none, (.str "joinedhand.octets" 272), none, (.ref 176), .none, 0⟩), #[]⟩
noncomputable def a178 (P : Params) : Obj := ⟨(.type "tuple"), none, (.seq #[(.str "at" 396), (.str "data" 397)] 0), #[]⟩
noncomputable def a179 (P : Params) : Obj := ⟨(.type "dict"), none, (.dict #[en P "__module__" 309 (.str "joinedhand.octets" 272), en P "__firstlineno__" 313 (.int 31 312), en P "__init__" 323 (.ref 111), en P "need" 331 (.ref 118), en P "number" 340 (.ref 125), en P "u8" 347 (.ref 132), en P "u16" 354 (.ref 139), en P "i16" 361 (.ref 146), en P "u24" 368 (.ref 153), en P "u32" 375 (.ref 160), en P "tag" 381 (.ref 165), en P "rows" 387 (.ref 170), en P "here" 395 (.ref 177), en P "__static_attributes__" 398 (.ref 178), en P "__dict__" 400 (.ref 181), en P "__weakref__" 402 (.ref 182), en P "__doc__" 403 .none] 4), #[]⟩
noncomputable def a180 (P : Params) : Obj := ⟨(.type "type"), none, (.cls ⟨"OctetsIn", [(.type "object")], [(.ref 180), (.type "object")], 179, "OctetsIn", true, [], [], false, none, false⟩), #[none, none, (some (.str "OctetsIn" 302)), (some (.str "OctetsIn" 310)), (some (.builtin "object.__new__")), (some (.bool true))]⟩
noncomputable def a181 (P : Params) : Obj := ⟨(.type "getset_descriptor"), none, (.fields #[(.str "__dict__" 399), (.ref 180), (.builtin "function.__dict__"), (.builtin "function.__dict__#set")]), #[]⟩
noncomputable def a182 (P : Params) : Obj := ⟨(.type "getset_descriptor"), none, (.fields #[(.str "__weakref__" 401), (.ref 180), (.builtin "ExceptionGroup.__weakref__"), .none]), #[]⟩
noncomputable def a183 (P : Params) : Obj := ⟨(.type "super"), none, (.fields #[(.ref 180), (.ref 180), (.ref 180)]), #[]⟩
noncomputable def a184 (P : Params) : Obj := ⟨(.type "builtin_function_or_method"), none, (.fields #[(.builtin "object.__init_subclass__"), (.ref 180)]), #[]⟩
noncomputable def a185 (P : Params) : Obj := ⟨(.type "dict"), none, (.dict #[en P "__name__" 165 (.str "joinedhand.octets" 272), en P "__doc__" 166 .none, en P "__package__" 167 .none, en P "__loader__" 168 (.builtin "__main__.__loader__#opaque"), en P "__spec__" 169 .none, en P "__annotations__" 170 (.ref 6), en P "__builtins__" 171 (.ref 4), en P "__file__" 173 (.str "/claim/cut.py" 172), en P "__cached__" 174 .none, en P "_wall" 193 (.ref 21), en P "ShapeError" 237 (.ref 48), en P "TableFault" 253 (.ref 61), en P "FontFault" 269 (.ref 73), en P "USE_SET" 271 (.int 16 270), en P "check_room" 282 (.ref 82), en P "number_at" 293 (.ref 89), en P "u32_at" 301 (.ref 96), en P "OctetsIn" 405 (.ref 180), en P "number_octets" 411 (.ref 189)] 19), #[]⟩
noncomputable def a186 (P : Params) : Obj := ⟨.none, none, (.fields #[(.int 1 0), (.int 0 0), (.ref 20), (.int 5 0), (.int 0 0), (.ref 28), (.int 14 0), (.int 0 0), (.ref 57), (.int 16 0), (.int 0 0), (.ref 69), (.int 20 0), (.int 0 0), (.ref 81), (.int 23 0), (.int 0 0), (.ref 88), (.int 29 0), (.int 0 0), (.ref 95), (.int 31 0), (.int 0 0), (.ref 102), (.int 72 0), (.int 0 0), (.ref 188)]), #[]⟩
noncomputable def a187 (P : Params) : Obj := ⟨(.type "tuple"), none, (.seq #[] 0), #[]⟩
noncomputable def a188 (P : Params) : Obj := ⟨.none, none, (.fields #[]), #[]⟩
noncomputable def a189 (P : Params) : Obj := ⟨.none, none, (.func ⟨"number_octets", "number_octets", fnA (st 11), .stmts (fnB (st 11)), fnS (st 11), 0, [], .none, .none, .none, .none, none, .none, .none, 0⟩), #[]⟩
noncomputable def a190 (P : Params) : Obj := ⟨(.type "code"), none, (.fields #[(.str "number_octets" 406), (.str "number_octets" 407), (.str "/claim/cut.py" 408), (.int 72 0), (.int 2 0), (.int 0 0), (.int 0 0), (.int 3 0), (.ref 185), (.bool true), (.int 181 0), (.ref 186), .none, .none, .none, (.ref 187), (.int 409 0), (.int 72 0), (.str "/claim/cut.py" 410)]), #[]⟩
noncomputable def a191 (P : Params) : Obj := ⟨(.type "function"), none, (.func ⟨"number_octets", "number_octets", fnA (st 11), .stmts (fnB (st 11)), fnS (st 11), 3, [], .none, .none, .none, (.str "joinedhand.octets" 272), none, (.ref 188), .none, 0⟩), #[]⟩
noncomputable def a192 (P : Params) : Obj := ⟨(.type "dict"), none, (.dict #[en P "__name__" 165 (.str "joinedhand.octets" 272), en P "__doc__" 166 .none, en P "__package__" 167 .none, en P "__loader__" 168 (.builtin "__main__.__loader__#opaque"), en P "__spec__" 169 .none, en P "__annotations__" 170 (.ref 6), en P "__builtins__" 171 (.ref 4), en P "__file__" 173 (.str "/claim/cut.py" 172), en P "__cached__" 174 .none, en P "_wall" 193 (.ref 21), en P "ShapeError" 237 (.ref 48), en P "TableFault" 253 (.ref 61), en P "FontFault" 269 (.ref 73), en P "USE_SET" 271 (.int 16 270), en P "check_room" 282 (.ref 82), en P "number_at" 293 (.ref 89), en P "u32_at" 301 (.ref 96), en P "OctetsIn" 405 (.ref 180), en P "number_octets" 411 (.ref 189), en P "OctetsOut" 513 (.ref 272)] 20), #[]⟩
noncomputable def a193 (P : Params) : Obj := ⟨.none, none, (.fields #[(.int 1 0), (.int 0 0), (.ref 20), (.int 5 0), (.int 0 0), (.ref 28), (.int 14 0), (.int 0 0), (.ref 57), (.int 16 0), (.int 0 0), (.ref 69), (.int 20 0), (.int 0 0), (.ref 81), (.int 23 0), (.int 0 0), (.ref 88), (.int 29 0), (.int 0 0), (.ref 95), (.int 31 0), (.int 0 0), (.ref 102), (.int 72 0), (.int 0 0), (.ref 188), (.int 76 0), (.int 0 0), (.ref 195)]), #[]⟩
noncomputable def a194 (P : Params) : Obj := ⟨(.type "tuple"), none, (.seq #[] 0), #[]⟩
noncomputable def a195 (P : Params) : Obj := ⟨(.type "builtin_function_or_method"), none, (.fields #[(.builtin "type.__prepare__"), (.type "type")]), #[]⟩
noncomputable def a196 (P : Params) : Obj := ⟨(.type "dict"), none, (.dict #[en P "__module__" 419 (.str "joinedhand.octets" 272), en P "__qualname__" 421 (.str "OctetsOut" 420), en P "__firstlineno__" 423 (.int 76 422), en P "__init__" 430 (.ref 203), en P "u8" 438 (.ref 210), en P "u16" 446 (.ref 217), en P "i16" 454 (.ref 224), en P "u24" 462 (.ref 231), en P "u32" 470 (.ref 238), en P "tag" 476 (.ref 243), en P "rows" 482 (.ref 248), en P "add" 490 (.ref 255), en P "size" 497 (.ref 262), en P "octets" 504 (.ref 269), en P "__static_attributes__" 506 (.ref 270)] 15), #[]⟩
noncomputable def a197 (P : Params) : Obj := ⟨(.type "tuple"), none, (.seq #[] 0), #[]⟩
noncomputable def a198 (P : Params) : Obj := ⟨.none, none, (.fields #[(.int 78 0), (.int 4 0), (.ref 202), (.int 81 0), (.int 4 0), (.ref 209), (.int 84 0), (.int 4 0), (.ref 216), (.int 87 0), (.int 4 0), (.ref 223), (.int 90 0), (.int 4 0), (.ref 230), (.int 93 0), (.int 4 0), (.ref 237), (.int 96 0), (.int 4 0), (.ref 242), (.int 101 0), (.int 4 0), (.ref 247), (.int 104 0), (.int 4 0), (.ref 254), (.int 107 0), (.int 4 0), (.ref 261), (.int 110 0), (.int 4 0), (.ref 268)]), #[]⟩
noncomputable def a199 (P : Params) : Obj := ⟨(.type "code"), none, (.fields #[(.str "OctetsOut" 414), (.str "OctetsOut" 415), (.str "/claim/cut.py" 416), (.int 76 0), (.int 0 0), (.int 0 0), (.int 0 0), (.int 0 0), (.ref 193), (.bool false), (.int 181 0), (.ref 194), .none, .none, .none, .none, (.int 417 0), (.int 76 0), (.str "/claim/cut.py" 418)]), #[]⟩
noncomputable def a200 (P : Params) : Obj := ⟨(.type "frame"), none, .plain, #[(some (.ref 195)), (some (.ref 3)), (some (.ref 192)), none, (some (.str "joinedhand.octets" 272)), none, (some (.ref 0))]⟩
noncomputable def a201 (P : Params) : Obj := ⟨(.type "tuple"), none, (.seq #[] 0), #[]⟩
noncomputable def a202 (P : Params) : Obj := ⟨.none, none, (.fields #[]), #[]⟩
noncomputable def a203 (P : Params) : Obj := ⟨(.type "tuple"), none, (.seq #[(.str "self" 427)] 0), #[]⟩
noncomputable def a204 (P : Params) : Obj := ⟨(.type "tuple"), none, (.seq #[] 0), #[]⟩
noncomputable def a205 (P : Params) : Obj := ⟨.none, none, (.func ⟨"__init__", "OctetsOut.__init__", fnA (mt 12 0), .stmts (fnB (mt 12 0)), fnS (mt 12 0), 0, [], .none, .none, .none, .none, none, .none, .none, 0⟩), #[]⟩
noncomputable def a206 (P : Params) : Obj := ⟨(.type "code"), none, (.fields #[(.str "__init__" 424), (.str "OctetsOut.__init__" 425), (.str "/claim/cut.py" 426), (.int 78 0), (.int 1 0), (.int 0 0), (.int 0 0), (.int 3 0), (.ref 197), (.bool true), (.int 181 0), (.ref 198), .none, (.ref 199), (.ref 200), (.ref 201), (.int 428 0), (.int 78 0), (.str "/claim/cut.py" 429)]), #[]⟩
noncomputable def a207 (P : Params) : Obj := ⟨(.type "function"), none, (.func ⟨"__init__", "OctetsOut.__init__", fnA (mt 12 0), .stmts (fnB (mt 12 0)), fnS (mt 12 0), 3, [], .none, .none, .none, (.str "joinedhand.octets" 272), none, (.ref 202), .none, 0⟩), #[]⟩
noncomputable def a208 (P : Params) : Obj := ⟨(.type "tuple"), none, (.seq #[] 0), #[]⟩
noncomputable def a209 (P : Params) : Obj := ⟨.none, none, (.fields #[]), #[]⟩
noncomputable def a210 (P : Params) : Obj := ⟨(.type "tuple"), none, (.seq #[(.str "self" 434), (.str "number" 435)] 0), #[]⟩
noncomputable def a211 (P : Params) : Obj := ⟨(.type "tuple"), none, (.seq #[] 0), #[]⟩
noncomputable def a212 (P : Params) : Obj := ⟨.none, none, (.func ⟨"u8", "OctetsOut.u8", fnA (mt 12 1), .stmts (fnB (mt 12 1)), fnS (mt 12 1), 0, [], .none, .none, .none, .none, none, .none, .none, 0⟩), #[]⟩
noncomputable def a213 (P : Params) : Obj := ⟨(.type "code"), none, (.fields #[(.str "u8" 431), (.str "OctetsOut.u8" 432), (.str "/claim/cut.py" 433), (.int 81 0), (.int 2 0), (.int 0 0), (.int 0 0), (.int 3 0), (.ref 204), (.bool true), (.int 181 0), (.ref 205), .none, (.ref 206), (.ref 207), (.ref 208), (.int 436 0), (.int 81 0), (.str "/claim/cut.py" 437)]), #[]⟩
noncomputable def a214 (P : Params) : Obj := ⟨(.type "function"), none, (.func ⟨"u8", "OctetsOut.u8", fnA (mt 12 1), .stmts (fnB (mt 12 1)), fnS (mt 12 1), 3, [], .none, .none, .none, (.str "joinedhand.octets" 272), none, (.ref 209), .none, 0⟩), #[]⟩
noncomputable def a215 (P : Params) : Obj := ⟨(.type "tuple"), none, (.seq #[] 0), #[]⟩
noncomputable def a216 (P : Params) : Obj := ⟨.none, none, (.fields #[]), #[]⟩
noncomputable def a217 (P : Params) : Obj := ⟨(.type "tuple"), none, (.seq #[(.str "self" 442), (.str "number" 443)] 0), #[]⟩
noncomputable def a218 (P : Params) : Obj := ⟨(.type "tuple"), none, (.seq #[] 0), #[]⟩
noncomputable def a219 (P : Params) : Obj := ⟨.none, none, (.func ⟨"u16", "OctetsOut.u16", fnA (mt 12 2), .stmts (fnB (mt 12 2)), fnS (mt 12 2), 0, [], .none, .none, .none, .none, none, .none, .none, 0⟩), #[]⟩
noncomputable def a220 (P : Params) : Obj := ⟨(.type "code"), none, (.fields #[(.str "u16" 439), (.str "OctetsOut.u16" 440), (.str "/claim/cut.py" 441), (.int 84 0), (.int 2 0), (.int 0 0), (.int 0 0), (.int 3 0), (.ref 211), (.bool true), (.int 181 0), (.ref 212), .none, (.ref 213), (.ref 214), (.ref 215), (.int 444 0), (.int 84 0), (.str "/claim/cut.py" 445)]), #[]⟩
noncomputable def a221 (P : Params) : Obj := ⟨(.type "function"), none, (.func ⟨"u16", "OctetsOut.u16", fnA (mt 12 2), .stmts (fnB (mt 12 2)), fnS (mt 12 2), 3, [], .none, .none, .none, (.str "joinedhand.octets" 272), none, (.ref 216), .none, 0⟩), #[]⟩
noncomputable def a222 (P : Params) : Obj := ⟨(.type "tuple"), none, (.seq #[] 0), #[]⟩
noncomputable def a223 (P : Params) : Obj := ⟨.none, none, (.fields #[]), #[]⟩
noncomputable def a224 (P : Params) : Obj := ⟨(.type "tuple"), none, (.seq #[(.str "self" 450), (.str "number" 451)] 0), #[]⟩
noncomputable def a225 (P : Params) : Obj := ⟨(.type "tuple"), none, (.seq #[] 0), #[]⟩
noncomputable def a226 (P : Params) : Obj := ⟨.none, none, (.func ⟨"i16", "OctetsOut.i16", fnA (mt 12 3), .stmts (fnB (mt 12 3)), fnS (mt 12 1), 0, [], .none, .none, .none, .none, none, .none, .none, 0⟩), #[]⟩
noncomputable def a227 (P : Params) : Obj := ⟨(.type "code"), none, (.fields #[(.str "i16" 447), (.str "OctetsOut.i16" 448), (.str "/claim/cut.py" 449), (.int 87 0), (.int 2 0), (.int 0 0), (.int 0 0), (.int 3 0), (.ref 218), (.bool true), (.int 181 0), (.ref 219), .none, (.ref 220), (.ref 221), (.ref 222), (.int 452 0), (.int 87 0), (.str "/claim/cut.py" 453)]), #[]⟩
noncomputable def a228 (P : Params) : Obj := ⟨(.type "function"), none, (.func ⟨"i16", "OctetsOut.i16", fnA (mt 12 3), .stmts (fnB (mt 12 3)), fnS (mt 12 1), 3, [], .none, .none, .none, (.str "joinedhand.octets" 272), none, (.ref 223), .none, 0⟩), #[]⟩
noncomputable def a229 (P : Params) : Obj := ⟨(.type "tuple"), none, (.seq #[] 0), #[]⟩
noncomputable def a230 (P : Params) : Obj := ⟨.none, none, (.fields #[]), #[]⟩
noncomputable def a231 (P : Params) : Obj := ⟨(.type "tuple"), none, (.seq #[(.str "self" 458), (.str "number" 459)] 0), #[]⟩
noncomputable def a232 (P : Params) : Obj := ⟨(.type "tuple"), none, (.seq #[] 0), #[]⟩
noncomputable def a233 (P : Params) : Obj := ⟨.none, none, (.func ⟨"u24", "OctetsOut.u24", fnA (mt 12 4), .stmts (fnB (mt 12 4)), fnS (mt 12 1), 0, [], .none, .none, .none, .none, none, .none, .none, 0⟩), #[]⟩
noncomputable def a234 (P : Params) : Obj := ⟨(.type "code"), none, (.fields #[(.str "u24" 455), (.str "OctetsOut.u24" 456), (.str "/claim/cut.py" 457), (.int 90 0), (.int 2 0), (.int 0 0), (.int 0 0), (.int 3 0), (.ref 225), (.bool true), (.int 181 0), (.ref 226), .none, (.ref 227), (.ref 228), (.ref 229), (.int 460 0), (.int 90 0), (.str "/claim/cut.py" 461)]), #[]⟩
noncomputable def a235 (P : Params) : Obj := ⟨(.type "function"), none, (.func ⟨"u24", "OctetsOut.u24", fnA (mt 12 4), .stmts (fnB (mt 12 4)), fnS (mt 12 1), 3, [], .none, .none, .none, (.str "joinedhand.octets" 272), none, (.ref 230), .none, 0⟩), #[]⟩
noncomputable def a236 (P : Params) : Obj := ⟨(.type "tuple"), none, (.seq #[] 0), #[]⟩
noncomputable def a237 (P : Params) : Obj := ⟨.none, none, (.fields #[]), #[]⟩
noncomputable def a238 (P : Params) : Obj := ⟨(.type "tuple"), none, (.seq #[(.str "self" 466), (.str "number" 467)] 0), #[]⟩
noncomputable def a239 (P : Params) : Obj := ⟨(.type "tuple"), none, (.seq #[] 0), #[]⟩
noncomputable def a240 (P : Params) : Obj := ⟨.none, none, (.func ⟨"u32", "OctetsOut.u32", fnA (mt 12 5), .stmts (fnB (mt 12 5)), fnS (mt 12 2), 0, [], .none, .none, .none, .none, none, .none, .none, 0⟩), #[]⟩
noncomputable def a241 (P : Params) : Obj := ⟨(.type "code"), none, (.fields #[(.str "u32" 463), (.str "OctetsOut.u32" 464), (.str "/claim/cut.py" 465), (.int 93 0), (.int 2 0), (.int 0 0), (.int 0 0), (.int 3 0), (.ref 232), (.bool true), (.int 181 0), (.ref 233), .none, (.ref 234), (.ref 235), (.ref 236), (.int 468 0), (.int 93 0), (.str "/claim/cut.py" 469)]), #[]⟩
noncomputable def a242 (P : Params) : Obj := ⟨(.type "function"), none, (.func ⟨"u32", "OctetsOut.u32", fnA (mt 12 5), .stmts (fnB (mt 12 5)), fnS (mt 12 2), 3, [], .none, .none, .none, (.str "joinedhand.octets" 272), none, (.ref 237), .none, 0⟩), #[]⟩
noncomputable def a243 (P : Params) : Obj := ⟨(.type "tuple"), none, (.seq #[] 0), #[]⟩
noncomputable def a244 (P : Params) : Obj := ⟨.none, none, (.fields #[]), #[]⟩
noncomputable def a245 (P : Params) : Obj := ⟨.none, none, (.func ⟨"tag", "OctetsOut.tag", fnA (mt 12 6), .stmts (fnB (mt 12 6)), fnS (mt 12 6), 0, [], .none, .none, .none, .none, none, .none, .none, 0⟩), #[]⟩
noncomputable def a246 (P : Params) : Obj := ⟨(.type "code"), none, (.fields #[(.str "tag" 471), (.str "OctetsOut.tag" 472), (.str "/claim/cut.py" 473), (.int 96 0), (.int 2 0), (.int 0 0), (.int 0 0), (.int 3 0), (.ref 239), (.bool true), (.int 181 0), (.ref 240), .none, .none, .none, (.ref 241), (.int 474 0), (.int 96 0), (.str "/claim/cut.py" 475)]), #[]⟩
noncomputable def a247 (P : Params) : Obj := ⟨(.type "function"), none, (.func ⟨"tag", "OctetsOut.tag", fnA (mt 12 6), .stmts (fnB (mt 12 6)), fnS (mt 12 6), 3, [], .none, .none, .none, (.str "joinedhand.octets" 272), none, (.ref 242), .none, 0⟩), #[]⟩
noncomputable def a248 (P : Params) : Obj := ⟨(.type "tuple"), none, (.seq #[] 0), #[]⟩
noncomputable def a249 (P : Params) : Obj := ⟨.none, none, (.fields #[]), #[]⟩
noncomputable def a250 (P : Params) : Obj := ⟨.none, none, (.func ⟨"rows", "OctetsOut.rows", fnA (mt 12 7), .stmts (fnB (mt 12 7)), fnS (mt 12 7), 0, [], .none, .none, .none, .none, none, .none, .none, 0⟩), #[]⟩
noncomputable def a251 (P : Params) : Obj := ⟨(.type "code"), none, (.fields #[(.str "rows" 477), (.str "OctetsOut.rows" 478), (.str "/claim/cut.py" 479), (.int 101 0), (.int 2 0), (.int 0 0), (.int 0 0), (.int 3 0), (.ref 244), (.bool true), (.int 181 0), (.ref 245), .none, .none, .none, (.ref 246), (.int 480 0), (.int 101 0), (.str "/claim/cut.py" 481)]), #[]⟩
noncomputable def a252 (P : Params) : Obj := ⟨(.type "function"), none, (.func ⟨"rows", "OctetsOut.rows", fnA (mt 12 7), .stmts (fnB (mt 12 7)), fnS (mt 12 7), 3, [], .none, .none, .none, (.str "joinedhand.octets" 272), none, (.ref 247), .none, 0⟩), #[]⟩
noncomputable def a253 (P : Params) : Obj := ⟨(.type "tuple"), none, (.seq #[] 0), #[]⟩
noncomputable def a254 (P : Params) : Obj := ⟨.none, none, (.fields #[]), #[]⟩
noncomputable def a255 (P : Params) : Obj := ⟨(.type "tuple"), none, (.seq #[(.str "self" 486), (.str "octets" 487)] 0), #[]⟩
noncomputable def a256 (P : Params) : Obj := ⟨(.type "tuple"), none, (.seq #[] 0), #[]⟩
noncomputable def a257 (P : Params) : Obj := ⟨.none, none, (.func ⟨"add", "OctetsOut.add", fnA (mt 12 8), .stmts (fnB (mt 12 8)), fnS (mt 12 8), 0, [], .none, .none, .none, .none, none, .none, .none, 0⟩), #[]⟩
noncomputable def a258 (P : Params) : Obj := ⟨(.type "code"), none, (.fields #[(.str "add" 483), (.str "OctetsOut.add" 484), (.str "/claim/cut.py" 485), (.int 104 0), (.int 2 0), (.int 0 0), (.int 0 0), (.int 3 0), (.ref 249), (.bool true), (.int 181 0), (.ref 250), .none, (.ref 251), (.ref 252), (.ref 253), (.int 488 0), (.int 104 0), (.str "/claim/cut.py" 489)]), #[]⟩
noncomputable def a259 (P : Params) : Obj := ⟨(.type "function"), none, (.func ⟨"add", "OctetsOut.add", fnA (mt 12 8), .stmts (fnB (mt 12 8)), fnS (mt 12 8), 3, [], .none, .none, .none, (.str "joinedhand.octets" 272), none, (.ref 254), .none, 0⟩), #[]⟩
noncomputable def a260 (P : Params) : Obj := ⟨(.type "tuple"), none, (.seq #[] 0), #[]⟩
noncomputable def a261 (P : Params) : Obj := ⟨.none, none, (.fields #[]), #[]⟩
noncomputable def a262 (P : Params) : Obj := ⟨(.type "tuple"), none, (.seq #[(.str "self" 494)] 0), #[]⟩
noncomputable def a263 (P : Params) : Obj := ⟨(.type "tuple"), none, (.seq #[] 0), #[]⟩
noncomputable def a264 (P : Params) : Obj := ⟨.none, none, (.func ⟨"size", "OctetsOut.size", fnA (mt 12 9), .stmts (fnB (mt 12 9)), fnS (mt 12 9), 0, [], .none, .none, .none, .none, none, .none, .none, 0⟩), #[]⟩
noncomputable def a265 (P : Params) : Obj := ⟨(.type "code"), none, (.fields #[(.str "size" 491), (.str "OctetsOut.size" 492), (.str "/claim/cut.py" 493), (.int 107 0), (.int 1 0), (.int 0 0), (.int 0 0), (.int 3 0), (.ref 256), (.bool true), (.int 181 0), (.ref 257), .none, (.ref 258), (.ref 259), (.ref 260), (.int 495 0), (.int 107 0), (.str "/claim/cut.py" 496)]), #[]⟩
noncomputable def a266 (P : Params) : Obj := ⟨(.type "function"), none, (.func ⟨"size", "OctetsOut.size", fnA (mt 12 9), .stmts (fnB (mt 12 9)), fnS (mt 12 9), 3, [], .none, .none, .none, (.str "joinedhand.octets" 272), none, (.ref 261), .none, 0⟩), #[]⟩
noncomputable def a267 (P : Params) : Obj := ⟨(.type "tuple"), none, (.seq #[] 0), #[]⟩
noncomputable def a268 (P : Params) : Obj := ⟨.none, none, (.fields #[]), #[]⟩
noncomputable def a269 (P : Params) : Obj := ⟨(.type "tuple"), none, (.seq #[(.str "self" 501)] 0), #[]⟩
noncomputable def a270 (P : Params) : Obj := ⟨(.type "tuple"), none, (.seq #[] 0), #[]⟩
noncomputable def a271 (P : Params) : Obj := ⟨.none, none, (.func ⟨"octets", "OctetsOut.octets", fnA (mt 12 10), .stmts (fnB (mt 12 10)), fnS (mt 12 10), 0, [], .none, .none, .none, .none, none, .none, .none, 0⟩), #[]⟩
noncomputable def a272 (P : Params) : Obj := ⟨(.type "code"), none, (.fields #[(.str "octets" 498), (.str "OctetsOut.octets" 499), (.str "/claim/cut.py" 500), (.int 110 0), (.int 1 0), (.int 0 0), (.int 0 0), (.int 3 0), (.ref 263), (.bool true), (.int 181 0), (.ref 264), .none, (.ref 265), (.ref 266), (.ref 267), (.int 502 0), (.int 110 0), (.str "/claim/cut.py" 503)]), #[]⟩
noncomputable def a273 (P : Params) : Obj := ⟨(.type "function"), none, (.func ⟨"octets", "OctetsOut.octets", fnA (mt 12 10), .stmts (fnB (mt 12 10)), fnS (mt 12 10), 3, [], .none, .none, .none, (.str "joinedhand.octets" 272), none, (.ref 268), .none, 0⟩), #[]⟩
noncomputable def a274 (P : Params) : Obj := ⟨(.type "tuple"), none, (.seq #[(.str "made" 505)] 0), #[]⟩
noncomputable def a275 (P : Params) : Obj := ⟨(.type "dict"), none, (.dict #[en P "__module__" 419 (.str "joinedhand.octets" 272), en P "__firstlineno__" 423 (.int 76 422), en P "__init__" 430 (.ref 203), en P "u8" 438 (.ref 210), en P "u16" 446 (.ref 217), en P "i16" 454 (.ref 224), en P "u24" 462 (.ref 231), en P "u32" 470 (.ref 238), en P "tag" 476 (.ref 243), en P "rows" 482 (.ref 248), en P "add" 490 (.ref 255), en P "size" 497 (.ref 262), en P "octets" 504 (.ref 269), en P "__static_attributes__" 506 (.ref 270), en P "__dict__" 508 (.ref 273), en P "__weakref__" 510 (.ref 274), en P "__doc__" 511 .none] 4), #[]⟩
noncomputable def a276 (P : Params) : Obj := ⟨(.type "type"), none, (.cls ⟨"OctetsOut", [(.type "object")], [(.ref 272), (.type "object")], 271, "OctetsOut", true, [], [], false, none, false⟩), #[none, none, (some (.str "OctetsOut" 412)), (some (.str "OctetsOut" 420)), (some (.builtin "object.__new__")), (some (.bool true))]⟩
noncomputable def a277 (P : Params) : Obj := ⟨(.type "getset_descriptor"), none, (.fields #[(.str "__dict__" 507), (.ref 272), (.builtin "function.__dict__"), (.builtin "function.__dict__#set")]), #[]⟩
noncomputable def a278 (P : Params) : Obj := ⟨(.type "getset_descriptor"), none, (.fields #[(.str "__weakref__" 509), (.ref 272), (.builtin "ExceptionGroup.__weakref__"), .none]), #[]⟩
noncomputable def a279 (P : Params) : Obj := ⟨(.type "super"), none, (.fields #[(.ref 272), (.ref 272), (.ref 272)]), #[]⟩
noncomputable def a280 (P : Params) : Obj := ⟨(.type "builtin_function_or_method"), none, (.fields #[(.builtin "object.__init_subclass__"), (.ref 272)]), #[]⟩
noncomputable def a281 (P : Params) : Obj := ⟨(.type "dict"), none, (.dict #[en P "__name__" 165 (.str "joinedhand.sfnt" 524), en P "__doc__" 166 .none, en P "__package__" 167 .none, en P "__loader__" 168 (.builtin "__main__.__loader__#opaque"), en P "__spec__" 169 .none, en P "__annotations__" 170 (.ref 6), en P "__builtins__" 171 (.ref 4), en P "__file__" 173 (.str "/claim/cut.py" 172), en P "__cached__" 174 .none, en P "_wall" 193 (.ref 21), en P "ShapeError" 237 (.ref 48), en P "TableFault" 253 (.ref 61), en P "FontFault" 269 (.ref 73), en P "USE_SET" 271 (.int 16 270), en P "check_room" 282 (.ref 82), en P "number_at" 293 (.ref 89), en P "u32_at" 301 (.ref 96), en P "OctetsIn" 405 (.ref 180), en P "number_octets" 411 (.ref 189), en P "OctetsOut" 513 (.ref 272), en P "checksum" 523 (.ref 283), en P "PLAIN" 527 (.int 65536 526), en P "OTTO" 529 (.int 1330926671 528), en P "APPLE" 531 (.int 1953658213 530), en P "VERSIONS" 532 (.ref 284), en P "HEADER_SIZE" 534 (.int 12 533), en P "RECORD_SIZE" 536 (.int 16 535), en P "MAGIC_SUM" 538 (.int 2981146554 537), en P "ADJUSTMENT" 540 (.int 8 539), en P "MOST_TABLES" 542 (.int 4095 541), en P "Record" 586 (.ref 308)] 31), #[]⟩
noncomputable def a282 (P : Params) : Obj := ⟨.none, none, (.fields #[(.int 1 0), (.int 0 0), (.ref 20), (.int 5 0), (.int 0 0), (.ref 28), (.int 14 0), (.int 0 0), (.ref 57), (.int 16 0), (.int 0 0), (.ref 69), (.int 20 0), (.int 0 0), (.ref 81), (.int 23 0), (.int 0 0), (.ref 88), (.int 29 0), (.int 0 0), (.ref 95), (.int 31 0), (.int 0 0), (.ref 102), (.int 72 0), (.int 0 0), (.ref 188), (.int 76 0), (.int 0 0), (.ref 195), (.int 112 0), (.int 0 0), (.ref 282), (.int 128 0), (.int 0 0), (.ref 290)]), #[]⟩
noncomputable def a283 (P : Params) : Obj := ⟨(.type "tuple"), none, (.seq #[] 0), #[]⟩
noncomputable def a284 (P : Params) : Obj := ⟨.none, none, (.fields #[]), #[]⟩
noncomputable def a285 (P : Params) : Obj := ⟨(.type "tuple"), none, (.seq #[(.str "octets" 517), (.str "filled" 518), (.str "total" 519), (.str "at" 520)] 0), #[]⟩
noncomputable def a286 (P : Params) : Obj := ⟨(.type "tuple"), none, (.seq #[] 0), #[]⟩
noncomputable def a287 (P : Params) : Obj := ⟨.none, none, (.func ⟨"checksum", "checksum", fnA (st 13), .stmts (fnB (st 13)), fnS (st 13), 0, [], .none, .none, .none, .none, none, .none, .none, 0⟩), #[]⟩
noncomputable def a288 (P : Params) : Obj := ⟨(.type "code"), none, (.fields #[(.str "checksum" 514), (.str "checksum" 515), (.str "/claim/cut.py" 516), (.int 112 0), (.int 1 0), (.int 0 0), (.int 0 0), (.int 3 0), (.ref 277), (.bool true), (.int 181 0), (.ref 278), .none, (.ref 279), (.ref 280), (.ref 281), (.int 521 0), (.int 112 0), (.str "/claim/cut.py" 522)]), #[]⟩
noncomputable def a289 (P : Params) : Obj := ⟨(.type "function"), none, (.func ⟨"checksum", "checksum", fnA (st 13), .stmts (fnB (st 13)), fnS (st 13), 3, [], .none, .none, .none, (.str "joinedhand.octets" 272), none, (.ref 282), .none, 0⟩), #[]⟩
noncomputable def a290 (P : Params) : Obj := ⟨(.type "tuple"), none, (.seq #[(.int 65536 526), (.int 1330926671 528), (.int 1953658213 530)] 0), #[]⟩
noncomputable def a291 (P : Params) : Obj := ⟨(.type "tuple"), none, (.seq #[] 0), #[]⟩
noncomputable def a292 (P : Params) : Obj := ⟨(.type "builtin_function_or_method"), none, (.fields #[(.builtin "type.__prepare__"), (.type "type")]), #[]⟩
noncomputable def a293 (P : Params) : Obj := ⟨(.type "dict"), none, (.dict #[en P "__module__" 550 (.str "joinedhand.sfnt" 524), en P "__qualname__" 552 (.str "Record" 551), en P "__firstlineno__" 554 (.int 128 553), en P "__init__" 566 (.ref 298), en P "end" 573 (.ref 305), en P "__static_attributes__" 579 (.ref 306)] 6), #[]⟩
noncomputable def a294 (P : Params) : Obj := ⟨(.type "tuple"), none, (.seq #[] 0), #[]⟩
noncomputable def a295 (P : Params) : Obj := ⟨.none, none, (.fields #[(.int 130 0), (.int 4 0), (.ref 297), (.int 137 0), (.int 4 0), (.ref 304)]), #[]⟩
noncomputable def a296 (P : Params) : Obj := ⟨(.type "code"), none, (.fields #[(.str "Record" 545), (.str "Record" 546), (.str "/claim/cut.py" 547), (.int 128 0), (.int 0 0), (.int 0 0), (.int 0 0), (.int 0 0), (.ref 288), (.bool false), (.int 181 0), (.ref 289), .none, .none, .none, .none, (.int 548 0), (.int 128 0), (.str "/claim/cut.py" 549)]), #[]⟩
noncomputable def a297 (P : Params) : Obj := ⟨(.type "frame"), none, .plain, #[(some (.ref 290)), (some (.ref 3)), (some (.ref 287)), none, (some (.str "joinedhand.sfnt" 524)), none, (some (.ref 0))]⟩
noncomputable def a298 (P : Params) : Obj := ⟨(.type "tuple"), none, (.seq #[] 0), #[]⟩
noncomputable def a299 (P : Params) : Obj := ⟨.none, none, (.fields #[]), #[]⟩
noncomputable def a300 (P : Params) : Obj := ⟨(.type "tuple"), none, (.seq #[(.str "self" 558), (.str "tag" 559), (.str "total" 560), (.str "begin" 561), (.str "length" 562), (.str "where" 563)] 0), #[]⟩
noncomputable def a301 (P : Params) : Obj := ⟨(.type "tuple"), none, (.seq #[] 0), #[]⟩
noncomputable def a302 (P : Params) : Obj := ⟨.none, none, (.func ⟨"__init__", "Record.__init__", fnA (mt 24 0), .stmts (fnB (mt 24 0)), fnS (mt 24 0), 0, [], .none, .none, .none, .none, none, .none, .none, 0⟩), #[]⟩
noncomputable def a303 (P : Params) : Obj := ⟨(.type "code"), none, (.fields #[(.str "__init__" 555), (.str "Record.__init__" 556), (.str "/claim/cut.py" 557), (.int 130 0), (.int 6 0), (.int 0 0), (.int 0 0), (.int 3 0), (.ref 292), (.bool true), (.int 181 0), (.ref 293), .none, (.ref 294), (.ref 295), (.ref 296), (.int 564 0), (.int 130 0), (.str "/claim/cut.py" 565)]), #[]⟩
noncomputable def a304 (P : Params) : Obj := ⟨(.type "function"), none, (.func ⟨"__init__", "Record.__init__", fnA (mt 24 0), .stmts (fnB (mt 24 0)), fnS (mt 24 0), 3, [], .none, .none, .none, (.str "joinedhand.sfnt" 524), none, (.ref 297), .none, 0⟩), #[]⟩
noncomputable def a305 (P : Params) : Obj := ⟨(.type "tuple"), none, (.seq #[] 0), #[]⟩
noncomputable def a306 (P : Params) : Obj := ⟨.none, none, (.fields #[]), #[]⟩
noncomputable def a307 (P : Params) : Obj := ⟨(.type "tuple"), none, (.seq #[(.str "self" 570)] 0), #[]⟩
noncomputable def a308 (P : Params) : Obj := ⟨(.type "tuple"), none, (.seq #[] 0), #[]⟩
noncomputable def a309 (P : Params) : Obj := ⟨.none, none, (.func ⟨"end", "Record.end", fnA (mt 24 1), .stmts (fnB (mt 24 1)), fnS (mt 2 1), 0, [], .none, .none, .none, .none, none, .none, .none, 0⟩), #[]⟩
noncomputable def a310 (P : Params) : Obj := ⟨(.type "code"), none, (.fields #[(.str "end" 567), (.str "Record.end" 568), (.str "/claim/cut.py" 569), (.int 137 0), (.int 1 0), (.int 0 0), (.int 0 0), (.int 3 0), (.ref 299), (.bool true), (.int 181 0), (.ref 300), .none, (.ref 301), (.ref 302), (.ref 303), (.int 571 0), (.int 137 0), (.str "/claim/cut.py" 572)]), #[]⟩
noncomputable def a311 (P : Params) : Obj := ⟨(.type "function"), none, (.func ⟨"end", "Record.end", fnA (mt 24 1), .stmts (fnB (mt 24 1)), fnS (mt 2 1), 3, [], .none, .none, .none, (.str "joinedhand.sfnt" 524), none, (.ref 304), .none, 0⟩), #[]⟩
noncomputable def a312 (P : Params) : Obj := ⟨(.type "tuple"), none, (.seq #[(.str "begin" 574), (.str "length" 575), (.str "tag" 576), (.str "total" 577), (.str "where" 578)] 0), #[]⟩
noncomputable def a313 (P : Params) : Obj := ⟨(.type "dict"), none, (.dict #[en P "__module__" 550 (.str "joinedhand.sfnt" 524), en P "__firstlineno__" 554 (.int 128 553), en P "__init__" 566 (.ref 298), en P "end" 573 (.ref 305), en P "__static_attributes__" 579 (.ref 306), en P "__dict__" 581 (.ref 309), en P "__weakref__" 583 (.ref 310), en P "__doc__" 584 .none] 4), #[]⟩
noncomputable def a314 (P : Params) : Obj := ⟨(.type "type"), none, (.cls ⟨"Record", [(.type "object")], [(.ref 308), (.type "object")], 307, "Record", true, [], [], false, none, false⟩), #[none, none, (some (.str "Record" 543)), (some (.str "Record" 551)), (some (.builtin "object.__new__")), (some (.bool true))]⟩
noncomputable def a315 (P : Params) : Obj := ⟨(.type "getset_descriptor"), none, (.fields #[(.str "__dict__" 580), (.ref 308), (.builtin "function.__dict__"), (.builtin "function.__dict__#set")]), #[]⟩
noncomputable def a316 (P : Params) : Obj := ⟨(.type "getset_descriptor"), none, (.fields #[(.str "__weakref__" 582), (.ref 308), (.builtin "ExceptionGroup.__weakref__"), .none]), #[]⟩
noncomputable def a317 (P : Params) : Obj := ⟨(.type "super"), none, (.fields #[(.ref 308), (.ref 308), (.ref 308)]), #[]⟩
noncomputable def a318 (P : Params) : Obj := ⟨(.type "builtin_function_or_method"), none, (.fields #[(.builtin "object.__init_subclass__"), (.ref 308)]), #[]⟩
noncomputable def a319 (P : Params) : Obj := ⟨(.type "dict"), none, (.dict #[en P "__name__" 165 (.str "joinedhand.sfnt" 524), en P "__doc__" 166 .none, en P "__package__" 167 .none, en P "__loader__" 168 (.builtin "__main__.__loader__#opaque"), en P "__spec__" 169 .none, en P "__annotations__" 170 (.ref 6), en P "__builtins__" 171 (.ref 4), en P "__file__" 173 (.str "/claim/cut.py" 172), en P "__cached__" 174 .none, en P "_wall" 193 (.ref 21), en P "ShapeError" 237 (.ref 48), en P "TableFault" 253 (.ref 61), en P "FontFault" 269 (.ref 73), en P "USE_SET" 271 (.int 16 270), en P "check_room" 282 (.ref 82), en P "number_at" 293 (.ref 89), en P "u32_at" 301 (.ref 96), en P "OctetsIn" 405 (.ref 180), en P "number_octets" 411 (.ref 189), en P "OctetsOut" 513 (.ref 272), en P "checksum" 523 (.ref 283), en P "PLAIN" 527 (.int 65536 526), en P "OTTO" 529 (.int 1330926671 528), en P "APPLE" 531 (.int 1953658213 530), en P "VERSIONS" 532 (.ref 284), en P "HEADER_SIZE" 534 (.int 12 533), en P "RECORD_SIZE" 536 (.int 16 535), en P "MAGIC_SUM" 538 (.int 2981146554 537), en P "ADJUSTMENT" 540 (.int 8 539), en P "MOST_TABLES" 542 (.int 4095 541), en P "Record" 586 (.ref 308), en P "directory_size" 593 (.ref 319), en P "read_record" 605 (.ref 326), en P "need_in_order" 615 (.ref 333), en P "need_apart" 621 (.ref 338), en P "read_records" 627 (.ref 343), en P "tables_of" 633 (.ref 348), en P "read_directory" 642 (.ref 355), en P "has_adjustment" 650 (.ref 362), en P "unadjusted" 658 (.ref 369), en P "table_sum" 666 (.ref 376), en P "check_sums" 672 (.ref 381), en P "search_numbers" 681 (.ref 388), en P "to_fours" 688 (.ref 395)] 44), #[]⟩
noncomputable def a320 (P : Params) : Obj := ⟨.none, none, (.fields #[(.int 1 0), (.int 0 0), (.ref 20), (.int 5 0), (.int 0 0), (.ref 28), (.int 14 0), (.int 0 0), (.ref 57), (.int 16 0), (.int 0 0), (.ref 69), (.int 20 0), (.int 0 0), (.ref 81), (.int 23 0), (.int 0 0), (.ref 88), (.int 29 0), (.int 0 0), (.ref 95), (.int 31 0), (.int 0 0), (.ref 102), (.int 72 0), (.int 0 0), (.ref 188), (.int 76 0), (.int 0 0), (.ref 195), (.int 112 0), (.int 0 0), (.ref 282), (.int 128 0), (.int 0 0), (.ref 290), (.int 139 0), (.int 0 0), (.ref 318), (.int 141 0), (.int 0 0), (.ref 325), (.int 147 0), (.int 0 0), (.ref 332), (.int 154 0), (.int 0 0), (.ref 337), (.int 161 0), (.int 0 0), (.ref 342), (.int 175 0), (.int 0 0), (.ref 347), (.int 177 0), (.int 0 0), (.ref 354), (.int 180 0), (.int 0 0), (.ref 361), (.int 182 0), (.int 0 0), (.ref 368), (.int 186 0), (.int 0 0), (.ref 375), (.int 188 0), (.int 0 0), (.ref 380), (.int 191 0), (.int 0 0), (.ref 387), (.int 197 0), (.int 0 0), (.ref 394)]), #[]⟩
noncomputable def a321 (P : Params) : Obj := ⟨(.type "tuple"), none, (.seq #[] 0), #[]⟩
noncomputable def a322 (P : Params) : Obj := ⟨.none, none, (.fields #[]), #[]⟩
noncomputable def a323 (P : Params) : Obj := ⟨(.type "tuple"), none, (.seq #[(.str "count" 590)] 0), #[]⟩
noncomputable def a324 (P : Params) : Obj := ⟨(.type "tuple"), none, (.seq #[] 0), #[]⟩
noncomputable def a325 (P : Params) : Obj := ⟨.none, none, (.func ⟨"directory_size", "directory_size", fnA (st 25), .stmts (fnB (st 25)), fnS (st 25), 0, [], .none, .none, .none, .none, none, .none, .none, 0⟩), #[]⟩
noncomputable def a326 (P : Params) : Obj := ⟨(.type "code"), none, (.fields #[(.str "directory_size" 587), (.str "directory_size" 588), (.str "/claim/cut.py" 589), (.int 139 0), (.int 1 0), (.int 0 0), (.int 0 0), (.int 3 0), (.ref 313), (.bool true), (.int 181 0), (.ref 314), .none, (.ref 315), (.ref 316), (.ref 317), (.int 591 0), (.int 139 0), (.str "/claim/cut.py" 592)]), #[]⟩
noncomputable def a327 (P : Params) : Obj := ⟨(.type "function"), none, (.func ⟨"directory_size", "directory_size", fnA (st 25), .stmts (fnB (st 25)), fnS (st 25), 3, [], .none, .none, .none, (.str "joinedhand.sfnt" 524), none, (.ref 318), .none, 0⟩), #[]⟩
noncomputable def a328 (P : Params) : Obj := ⟨(.type "tuple"), none, (.seq #[] 0), #[]⟩
noncomputable def a329 (P : Params) : Obj := ⟨.none, none, (.fields #[]), #[]⟩
noncomputable def a330 (P : Params) : Obj := ⟨(.type "tuple"), none, (.seq #[(.str "data" 597), (.str "where" 598), (.str "reader" 599), (.str "tag" 600), (.str "total" 601), (.str "begin" 602)] 0), #[]⟩
noncomputable def a331 (P : Params) : Obj := ⟨(.type "tuple"), none, (.seq #[] 0), #[]⟩
noncomputable def a332 (P : Params) : Obj := ⟨.none, none, (.func ⟨"read_record", "read_record", fnA (st 26), .stmts (fnB (st 26)), fnS (st 26), 0, [], .none, .none, .none, .none, none, .none, .none, 0⟩), #[]⟩
noncomputable def a333 (P : Params) : Obj := ⟨(.type "code"), none, (.fields #[(.str "read_record" 594), (.str "read_record" 595), (.str "/claim/cut.py" 596), (.int 141 0), (.int 2 0), (.int 0 0), (.int 0 0), (.int 3 0), (.ref 320), (.bool true), (.int 181 0), (.ref 321), .none, (.ref 322), (.ref 323), (.ref 324), (.int 603 0), (.int 141 0), (.str "/claim/cut.py" 604)]), #[]⟩
noncomputable def a334 (P : Params) : Obj := ⟨(.type "function"), none, (.func ⟨"read_record", "read_record", fnA (st 26), .stmts (fnB (st 26)), fnS (st 26), 3, [], .none, .none, .none, (.str "joinedhand.sfnt" 524), none, (.ref 325), .none, 0⟩), #[]⟩
noncomputable def a335 (P : Params) : Obj := ⟨(.type "tuple"), none, (.seq #[] 0), #[]⟩
noncomputable def a336 (P : Params) : Obj := ⟨.none, none, (.fields #[]), #[]⟩
noncomputable def a337 (P : Params) : Obj := ⟨(.type "tuple"), none, (.seq #[(.str "records" 609), (.str "size" 610), (.str "at" 611), (.str "one" 612)] 0), #[]⟩
noncomputable def a338 (P : Params) : Obj := ⟨(.type "tuple"), none, (.seq #[] 0), #[]⟩
noncomputable def a339 (P : Params) : Obj := ⟨.none, none, (.func ⟨"need_in_order", "need_in_order", fnA (st 27), .stmts (fnB (st 27)), fnS (st 27), 0, [], .none, .none, .none, .none, none, .none, .none, 0⟩), #[]⟩
noncomputable def a340 (P : Params) : Obj := ⟨(.type "code"), none, (.fields #[(.str "need_in_order" 606), (.str "need_in_order" 607), (.str "/claim/cut.py" 608), (.int 147 0), (.int 2 0), (.int 0 0), (.int 0 0), (.int 3 0), (.ref 327), (.bool true), (.int 181 0), (.ref 328), .none, (.ref 329), (.ref 330), (.ref 331), (.int 613 0), (.int 147 0), (.str "/claim/cut.py" 614)]), #[]⟩
noncomputable def a341 (P : Params) : Obj := ⟨(.type "function"), none, (.func ⟨"need_in_order", "need_in_order", fnA (st 27), .stmts (fnB (st 27)), fnS (st 27), 3, [], .none, .none, .none, (.str "joinedhand.sfnt" 524), none, (.ref 332), .none, 0⟩), #[]⟩
noncomputable def a342 (P : Params) : Obj := ⟨(.type "tuple"), none, (.seq #[] 0), #[]⟩
noncomputable def a343 (P : Params) : Obj := ⟨.none, none, (.fields #[]), #[]⟩
noncomputable def a344 (P : Params) : Obj := ⟨.none, none, (.func ⟨"need_apart", "need_apart", fnA (st 28), .stmts (fnB (st 28)), fnS (st 28), 0, [], .none, .none, .none, .none, none, .none, .none, 0⟩), #[]⟩
noncomputable def a345 (P : Params) : Obj := ⟨(.type "code"), none, (.fields #[(.str "need_apart" 616), (.str "need_apart" 617), (.str "/claim/cut.py" 618), (.int 154 0), (.int 3 0), (.int 0 0), (.int 0 0), (.int 3 0), (.ref 334), (.bool true), (.int 181 0), (.ref 335), .none, .none, .none, (.ref 336), (.int 619 0), (.int 154 0), (.str "/claim/cut.py" 620)]), #[]⟩
noncomputable def a346 (P : Params) : Obj := ⟨(.type "function"), none, (.func ⟨"need_apart", "need_apart", fnA (st 28), .stmts (fnB (st 28)), fnS (st 28), 3, [], .none, .none, .none, (.str "joinedhand.sfnt" 524), none, (.ref 337), .none, 0⟩), #[]⟩
noncomputable def a347 (P : Params) : Obj := ⟨(.type "tuple"), none, (.seq #[] 0), #[]⟩
noncomputable def a348 (P : Params) : Obj := ⟨.none, none, (.fields #[]), #[]⟩
noncomputable def a349 (P : Params) : Obj := ⟨.none, none, (.func ⟨"read_records", "read_records", fnA (st 29), .stmts (fnB (st 29)), fnS (st 29), 0, [], .none, .none, .none, .none, none, .none, .none, 0⟩), #[]⟩
noncomputable def a350 (P : Params) : Obj := ⟨(.type "code"), none, (.fields #[(.str "read_records" 622), (.str "read_records" 623), (.str "/claim/cut.py" 624), (.int 161 0), (.int 2 0), (.int 0 0), (.int 0 0), (.int 3 0), (.ref 339), (.bool true), (.int 181 0), (.ref 340), .none, .none, .none, (.ref 341), (.int 625 0), (.int 161 0), (.str "/claim/cut.py" 626)]), #[]⟩
noncomputable def a351 (P : Params) : Obj := ⟨(.type "function"), none, (.func ⟨"read_records", "read_records", fnA (st 29), .stmts (fnB (st 29)), fnS (st 29), 3, [], .none, .none, .none, (.str "joinedhand.sfnt" 524), none, (.ref 342), .none, 0⟩), #[]⟩
noncomputable def a352 (P : Params) : Obj := ⟨(.type "tuple"), none, (.seq #[] 0), #[]⟩
noncomputable def a353 (P : Params) : Obj := ⟨.none, none, (.fields #[]), #[]⟩
noncomputable def a354 (P : Params) : Obj := ⟨.none, none, (.func ⟨"tables_of", "tables_of", fnA (st 30), .stmts (fnB (st 30)), fnS (st 30), 0, [], .none, .none, .none, .none, none, .none, .none, 0⟩), #[]⟩
noncomputable def a355 (P : Params) : Obj := ⟨(.type "code"), none, (.fields #[(.str "tables_of" 628), (.str "tables_of" 629), (.str "/claim/cut.py" 630), (.int 175 0), (.int 2 0), (.int 0 0), (.int 0 0), (.int 3 0), (.ref 344), (.bool true), (.int 181 0), (.ref 345), .none, .none, .none, (.ref 346), (.int 631 0), (.int 175 0), (.str "/claim/cut.py" 632)]), #[]⟩
noncomputable def a356 (P : Params) : Obj := ⟨(.type "function"), none, (.func ⟨"tables_of", "tables_of", fnA (st 30), .stmts (fnB (st 30)), fnS (st 30), 3, [], .none, .none, .none, (.str "joinedhand.sfnt" 524), none, (.ref 347), .none, 0⟩), #[]⟩
noncomputable def a357 (P : Params) : Obj := ⟨(.type "tuple"), none, (.seq #[] 0), #[]⟩
noncomputable def a358 (P : Params) : Obj := ⟨.none, none, (.fields #[]), #[]⟩
noncomputable def a359 (P : Params) : Obj := ⟨(.type "tuple"), none, (.seq #[(.str "data" 637), (.str "version" 638), (.str "records" 639)] 0), #[]⟩
noncomputable def a360 (P : Params) : Obj := ⟨(.type "tuple"), none, (.seq #[] 0), #[]⟩
noncomputable def a361 (P : Params) : Obj := ⟨.none, none, (.func ⟨"read_directory", "read_directory", fnA (st 31), .stmts (fnB (st 31)), fnS (st 31), 0, [], .none, .none, .none, .none, none, .none, .none, 0⟩), #[]⟩
noncomputable def a362 (P : Params) : Obj := ⟨(.type "code"), none, (.fields #[(.str "read_directory" 634), (.str "read_directory" 635), (.str "/claim/cut.py" 636), (.int 177 0), (.int 1 0), (.int 0 0), (.int 0 0), (.int 3 0), (.ref 349), (.bool true), (.int 181 0), (.ref 350), .none, (.ref 351), (.ref 352), (.ref 353), (.int 640 0), (.int 177 0), (.str "/claim/cut.py" 641)]), #[]⟩
noncomputable def a363 (P : Params) : Obj := ⟨(.type "function"), none, (.func ⟨"read_directory", "read_directory", fnA (st 31), .stmts (fnB (st 31)), fnS (st 31), 3, [], .none, .none, .none, (.str "joinedhand.sfnt" 524), none, (.ref 354), .none, 0⟩), #[]⟩
noncomputable def a364 (P : Params) : Obj := ⟨(.type "tuple"), none, (.seq #[] 0), #[]⟩
noncomputable def a365 (P : Params) : Obj := ⟨.none, none, (.fields #[]), #[]⟩
noncomputable def a366 (P : Params) : Obj := ⟨(.type "tuple"), none, (.seq #[(.str "tag" 646), (.str "octets" 647)] 0), #[]⟩
noncomputable def a367 (P : Params) : Obj := ⟨(.type "tuple"), none, (.seq #[] 0), #[]⟩
noncomputable def a368 (P : Params) : Obj := ⟨.none, none, (.func ⟨"has_adjustment", "has_adjustment", fnA (st 32), .stmts (fnB (st 32)), fnS (st 32), 0, [], .none, .none, .none, .none, none, .none, .none, 0⟩), #[]⟩
noncomputable def a369 (P : Params) : Obj := ⟨(.type "code"), none, (.fields #[(.str "has_adjustment" 643), (.str "has_adjustment" 644), (.str "/claim/cut.py" 645), (.int 180 0), (.int 2 0), (.int 0 0), (.int 0 0), (.int 3 0), (.ref 356), (.bool true), (.int 181 0), (.ref 357), .none, (.ref 358), (.ref 359), (.ref 360), (.int 648 0), (.int 180 0), (.str "/claim/cut.py" 649)]), #[]⟩
noncomputable def a370 (P : Params) : Obj := ⟨(.type "function"), none, (.func ⟨"has_adjustment", "has_adjustment", fnA (st 32), .stmts (fnB (st 32)), fnS (st 32), 3, [], .none, .none, .none, (.str "joinedhand.sfnt" 524), none, (.ref 361), .none, 0⟩), #[]⟩
noncomputable def a371 (P : Params) : Obj := ⟨(.type "tuple"), none, (.seq #[] 0), #[]⟩
noncomputable def a372 (P : Params) : Obj := ⟨.none, none, (.fields #[]), #[]⟩
noncomputable def a373 (P : Params) : Obj := ⟨(.type "tuple"), none, (.seq #[(.str "tag" 654), (.str "octets" 655)] 0), #[]⟩
noncomputable def a374 (P : Params) : Obj := ⟨(.type "tuple"), none, (.seq #[] 0), #[]⟩
noncomputable def a375 (P : Params) : Obj := ⟨.none, none, (.func ⟨"unadjusted", "unadjusted", fnA (st 33), .stmts (fnB (st 33)), fnS (st 33), 0, [], .none, .none, .none, .none, none, .none, .none, 0⟩), #[]⟩
noncomputable def a376 (P : Params) : Obj := ⟨(.type "code"), none, (.fields #[(.str "unadjusted" 651), (.str "unadjusted" 652), (.str "/claim/cut.py" 653), (.int 182 0), (.int 2 0), (.int 0 0), (.int 0 0), (.int 3 0), (.ref 363), (.bool true), (.int 181 0), (.ref 364), .none, (.ref 365), (.ref 366), (.ref 367), (.int 656 0), (.int 182 0), (.str "/claim/cut.py" 657)]), #[]⟩
noncomputable def a377 (P : Params) : Obj := ⟨(.type "function"), none, (.func ⟨"unadjusted", "unadjusted", fnA (st 33), .stmts (fnB (st 33)), fnS (st 33), 3, [], .none, .none, .none, (.str "joinedhand.sfnt" 524), none, (.ref 368), .none, 0⟩), #[]⟩
noncomputable def a378 (P : Params) : Obj := ⟨(.type "tuple"), none, (.seq #[] 0), #[]⟩
noncomputable def a379 (P : Params) : Obj := ⟨.none, none, (.fields #[]), #[]⟩
noncomputable def a380 (P : Params) : Obj := ⟨(.type "tuple"), none, (.seq #[(.str "tag" 662), (.str "octets" 663)] 0), #[]⟩
noncomputable def a381 (P : Params) : Obj := ⟨(.type "tuple"), none, (.seq #[] 0), #[]⟩
noncomputable def a382 (P : Params) : Obj := ⟨.none, none, (.func ⟨"table_sum", "table_sum", fnA (st 34), .stmts (fnB (st 34)), fnS (st 34), 0, [], .none, .none, .none, .none, none, .none, .none, 0⟩), #[]⟩
noncomputable def a383 (P : Params) : Obj := ⟨(.type "code"), none, (.fields #[(.str "table_sum" 659), (.str "table_sum" 660), (.str "/claim/cut.py" 661), (.int 186 0), (.int 2 0), (.int 0 0), (.int 0 0), (.int 3 0), (.ref 370), (.bool true), (.int 181 0), (.ref 371), .none, (.ref 372), (.ref 373), (.ref 374), (.int 664 0), (.int 186 0), (.str "/claim/cut.py" 665)]), #[]⟩
noncomputable def a384 (P : Params) : Obj := ⟨(.type "function"), none, (.func ⟨"table_sum", "table_sum", fnA (st 34), .stmts (fnB (st 34)), fnS (st 34), 3, [], .none, .none, .none, (.str "joinedhand.sfnt" 524), none, (.ref 375), .none, 0⟩), #[]⟩
noncomputable def a385 (P : Params) : Obj := ⟨(.type "tuple"), none, (.seq #[] 0), #[]⟩
noncomputable def a386 (P : Params) : Obj := ⟨.none, none, (.fields #[]), #[]⟩
noncomputable def a387 (P : Params) : Obj := ⟨.none, none, (.func ⟨"check_sums", "check_sums", fnA (st 35), .stmts (fnB (st 35)), fnS (st 35), 0, [], .none, .none, .none, .none, none, .none, .none, 0⟩), #[]⟩
noncomputable def a388 (P : Params) : Obj := ⟨(.type "code"), none, (.fields #[(.str "check_sums" 667), (.str "check_sums" 668), (.str "/claim/cut.py" 669), (.int 188 0), (.int 1 0), (.int 0 0), (.int 0 0), (.int 3 0), (.ref 377), (.bool true), (.int 181 0), (.ref 378), .none, .none, .none, (.ref 379), (.int 670 0), (.int 188 0), (.str "/claim/cut.py" 671)]), #[]⟩
noncomputable def a389 (P : Params) : Obj := ⟨(.type "function"), none, (.func ⟨"check_sums", "check_sums", fnA (st 35), .stmts (fnB (st 35)), fnS (st 35), 3, [], .none, .none, .none, (.str "joinedhand.sfnt" 524), none, (.ref 380), .none, 0⟩), #[]⟩
noncomputable def a390 (P : Params) : Obj := ⟨(.type "tuple"), none, (.seq #[] 0), #[]⟩
noncomputable def a391 (P : Params) : Obj := ⟨.none, none, (.fields #[]), #[]⟩
noncomputable def a392 (P : Params) : Obj := ⟨(.type "tuple"), none, (.seq #[(.str "count" 676), (.str "power" 677), (.str "steps" 678)] 0), #[]⟩
noncomputable def a393 (P : Params) : Obj := ⟨(.type "tuple"), none, (.seq #[] 0), #[]⟩
noncomputable def a394 (P : Params) : Obj := ⟨.none, none, (.func ⟨"search_numbers", "search_numbers", fnA (st 36), .stmts (fnB (st 36)), fnS (st 36), 0, [], .none, .none, .none, .none, none, .none, .none, 0⟩), #[]⟩
noncomputable def a395 (P : Params) : Obj := ⟨(.type "code"), none, (.fields #[(.str "search_numbers" 673), (.str "search_numbers" 674), (.str "/claim/cut.py" 675), (.int 191 0), (.int 1 0), (.int 0 0), (.int 0 0), (.int 3 0), (.ref 382), (.bool true), (.int 181 0), (.ref 383), .none, (.ref 384), (.ref 385), (.ref 386), (.int 679 0), (.int 191 0), (.str "/claim/cut.py" 680)]), #[]⟩
noncomputable def a396 (P : Params) : Obj := ⟨(.type "function"), none, (.func ⟨"search_numbers", "search_numbers", fnA (st 36), .stmts (fnB (st 36)), fnS (st 36), 3, [], .none, .none, .none, (.str "joinedhand.sfnt" 524), none, (.ref 387), .none, 0⟩), #[]⟩
noncomputable def a397 (P : Params) : Obj := ⟨(.type "tuple"), none, (.seq #[] 0), #[]⟩
noncomputable def a398 (P : Params) : Obj := ⟨.none, none, (.fields #[]), #[]⟩
noncomputable def a399 (P : Params) : Obj := ⟨(.type "tuple"), none, (.seq #[(.str "octets" 685)] 0), #[]⟩
noncomputable def a400 (P : Params) : Obj := ⟨(.type "tuple"), none, (.seq #[] 0), #[]⟩
noncomputable def a401 (P : Params) : Obj := ⟨.none, none, (.func ⟨"to_fours", "to_fours", fnA (st 37), .stmts (fnB (st 37)), fnS (st 37), 0, [], .none, .none, .none, .none, none, .none, .none, 0⟩), #[]⟩
noncomputable def a402 (P : Params) : Obj := ⟨(.type "code"), none, (.fields #[(.str "to_fours" 682), (.str "to_fours" 683), (.str "/claim/cut.py" 684), (.int 197 0), (.int 1 0), (.int 0 0), (.int 0 0), (.int 3 0), (.ref 389), (.bool true), (.int 181 0), (.ref 390), .none, (.ref 391), (.ref 392), (.ref 393), (.int 686 0), (.int 197 0), (.str "/claim/cut.py" 687)]), #[]⟩
noncomputable def a403 (P : Params) : Obj := ⟨(.type "function"), none, (.func ⟨"to_fours", "to_fours", fnA (st 37), .stmts (fnB (st 37)), fnS (st 37), 3, [], .none, .none, .none, (.str "joinedhand.sfnt" 524), none, (.ref 394), .none, 0⟩), #[]⟩
noncomputable def a404 (P : Params) : Obj := ⟨(.type "dict"), none, (.dict #[en P "__name__" 165 (.str "joinedhand.checker" 747), en P "__doc__" 166 .none, en P "__package__" 167 .none, en P "__loader__" 168 (.builtin "__main__.__loader__#opaque"), en P "__spec__" 169 .none, en P "__annotations__" 170 (.ref 6), en P "__builtins__" 171 (.ref 4), en P "__file__" 173 (.str "/claim/cut.py" 172), en P "__cached__" 174 .none, en P "_wall" 193 (.ref 21), en P "ShapeError" 237 (.ref 48), en P "TableFault" 253 (.ref 61), en P "FontFault" 269 (.ref 73), en P "USE_SET" 271 (.int 16 270), en P "check_room" 282 (.ref 82), en P "number_at" 293 (.ref 89), en P "u32_at" 301 (.ref 96), en P "OctetsIn" 405 (.ref 180), en P "number_octets" 411 (.ref 189), en P "OctetsOut" 513 (.ref 272), en P "checksum" 523 (.ref 283), en P "PLAIN" 527 (.int 65536 526), en P "OTTO" 529 (.int 1330926671 528), en P "APPLE" 531 (.int 1953658213 530), en P "VERSIONS" 532 (.ref 284), en P "HEADER_SIZE" 534 (.int 12 533), en P "RECORD_SIZE" 536 (.int 16 535), en P "MAGIC_SUM" 538 (.int 2981146554 537), en P "ADJUSTMENT" 540 (.int 8 539), en P "MOST_TABLES" 542 (.int 4095 541), en P "Record" 586 (.ref 308), en P "directory_size" 593 (.ref 319), en P "read_record" 605 (.ref 326), en P "need_in_order" 615 (.ref 333), en P "need_apart" 621 (.ref 338), en P "read_records" 627 (.ref 343), en P "tables_of" 633 (.ref 348), en P "read_directory" 642 (.ref 355), en P "has_adjustment" 650 (.ref 362), en P "unadjusted" 658 (.ref 369), en P "table_sum" 666 (.ref 376), en P "check_sums" 672 (.ref 381), en P "search_numbers" 681 (.ref 388), en P "to_fours" 688 (.ref 395), en P "need_tables" 697 (.ref 402), en P "directory_octets" 707 (.ref 409), en P "with_adjustment" 716 (.ref 416), en P "write_sfnt" 731 (.ref 423), en P "lookups_of" 744 (.ref 430), en P "MOST_DEPTH" 746 (.int 6 745), en P "NEEDED" 754 (.ref 431), en P "HEADS" 758 (.ref 432), en P "MOST_GLYPHS" 760 (.int 65536 759)] 53), #[]⟩
noncomputable def a405 (P : Params) : Obj := ⟨.none, none, (.fields #[(.int 1 0), (.int 0 0), (.ref 20), (.int 5 0), (.int 0 0), (.ref 28), (.int 14 0), (.int 0 0), (.ref 57), (.int 16 0), (.int 0 0), (.ref 69), (.int 20 0), (.int 0 0), (.ref 81), (.int 23 0), (.int 0 0), (.ref 88), (.int 29 0), (.int 0 0), (.ref 95), (.int 31 0), (.int 0 0), (.ref 102), (.int 72 0), (.int 0 0), (.ref 188), (.int 76 0), (.int 0 0), (.ref 195), (.int 112 0), (.int 0 0), (.ref 282), (.int 128 0), (.int 0 0), (.ref 290), (.int 139 0), (.int 0 0), (.ref 318), (.int 141 0), (.int 0 0), (.ref 325), (.int 147 0), (.int 0 0), (.ref 332), (.int 154 0), (.int 0 0), (.ref 337), (.int 161 0), (.int 0 0), (.ref 342), (.int 175 0), (.int 0 0), (.ref 347), (.int 177 0), (.int 0 0), (.ref 354), (.int 180 0), (.int 0 0), (.ref 361), (.int 182 0), (.int 0 0), (.ref 368), (.int 186 0), (.int 0 0), (.ref 375), (.int 188 0), (.int 0 0), (.ref 380), (.int 191 0), (.int 0 0), (.ref 387), (.int 197 0), (.int 0 0), (.ref 394), (.int 199 0), (.int 0 0), (.ref 401), (.int 207 0), (.int 0 0), (.ref 408), (.int 218 0), (.int 0 0), (.ref 415), (.int 222 0), (.int 0 0), (.ref 422), (.int 236 0), (.int 0 0), (.ref 429)]), #[]⟩
noncomputable def a406 (P : Params) : Obj := ⟨(.type "tuple"), none, (.seq #[] 0), #[]⟩
noncomputable def a407 (P : Params) : Obj := ⟨.none, none, (.fields #[]), #[]⟩
noncomputable def a408 (P : Params) : Obj := ⟨(.type "tuple"), none, (.seq #[(.str "version" 692), (.str "tables" 693), (.str "tag" 694)] 0), #[]⟩
noncomputable def a409 (P : Params) : Obj := ⟨(.type "tuple"), none, (.seq #[] 0), #[]⟩
noncomputable def a410 (P : Params) : Obj := ⟨.none, none, (.func ⟨"need_tables", "need_tables", fnA (st 38), .stmts (fnB (st 38)), fnS (st 38), 0, [], .none, .none, .none, .none, none, .none, .none, 0⟩), #[]⟩
noncomputable def a411 (P : Params) : Obj := ⟨(.type "code"), none, (.fields #[(.str "need_tables" 689), (.str "need_tables" 690), (.str "/claim/cut.py" 691), (.int 199 0), (.int 2 0), (.int 0 0), (.int 0 0), (.int 3 0), (.ref 396), (.bool true), (.int 181 0), (.ref 397), .none, (.ref 398), (.ref 399), (.ref 400), (.int 695 0), (.int 199 0), (.str "/claim/cut.py" 696)]), #[]⟩
noncomputable def a412 (P : Params) : Obj := ⟨(.type "function"), none, (.func ⟨"need_tables", "need_tables", fnA (st 38), .stmts (fnB (st 38)), fnS (st 38), 3, [], .none, .none, .none, (.str "joinedhand.sfnt" 524), none, (.ref 401), .none, 0⟩), #[]⟩
noncomputable def a413 (P : Params) : Obj := ⟨(.type "tuple"), none, (.seq #[] 0), #[]⟩
noncomputable def a414 (P : Params) : Obj := ⟨.none, none, (.fields #[]), #[]⟩
noncomputable def a415 (P : Params) : Obj := ⟨(.type "tuple"), none, (.seq #[(.str "version" 701), (.str "records" 702), (.str "out" 703), (.str "one" 704)] 0), #[]⟩
noncomputable def a416 (P : Params) : Obj := ⟨(.type "tuple"), none, (.seq #[] 0), #[]⟩
noncomputable def a417 (P : Params) : Obj := ⟨.none, none, (.func ⟨"directory_octets", "directory_octets", fnA (st 39), .stmts (fnB (st 39)), fnS (st 39), 0, [], .none, .none, .none, .none, none, .none, .none, 0⟩), #[]⟩
noncomputable def a418 (P : Params) : Obj := ⟨(.type "code"), none, (.fields #[(.str "directory_octets" 698), (.str "directory_octets" 699), (.str "/claim/cut.py" 700), (.int 207 0), (.int 2 0), (.int 0 0), (.int 0 0), (.int 3 0), (.ref 403), (.bool true), (.int 181 0), (.ref 404), .none, (.ref 405), (.ref 406), (.ref 407), (.int 705 0), (.int 207 0), (.str "/claim/cut.py" 706)]), #[]⟩
noncomputable def a419 (P : Params) : Obj := ⟨(.type "function"), none, (.func ⟨"directory_octets", "directory_octets", fnA (st 39), .stmts (fnB (st 39)), fnS (st 39), 3, [], .none, .none, .none, (.str "joinedhand.sfnt" 524), none, (.ref 408), .none, 0⟩), #[]⟩
noncomputable def a420 (P : Params) : Obj := ⟨(.type "tuple"), none, (.seq #[] 0), #[]⟩
noncomputable def a421 (P : Params) : Obj := ⟨.none, none, (.fields #[]), #[]⟩
noncomputable def a422 (P : Params) : Obj := ⟨(.type "tuple"), none, (.seq #[(.str "data" 711), (.str "spot" 712), (.str "out" 713)] 0), #[]⟩
noncomputable def a423 (P : Params) : Obj := ⟨(.type "tuple"), none, (.seq #[] 0), #[]⟩
noncomputable def a424 (P : Params) : Obj := ⟨.none, none, (.func ⟨"with_adjustment", "with_adjustment", fnA (st 40), .stmts (fnB (st 40)), fnS (st 40), 0, [], .none, .none, .none, .none, none, .none, .none, 0⟩), #[]⟩
noncomputable def a425 (P : Params) : Obj := ⟨(.type "code"), none, (.fields #[(.str "with_adjustment" 708), (.str "with_adjustment" 709), (.str "/claim/cut.py" 710), (.int 218 0), (.int 2 0), (.int 0 0), (.int 0 0), (.int 3 0), (.ref 410), (.bool true), (.int 181 0), (.ref 411), .none, (.ref 412), (.ref 413), (.ref 414), (.int 714 0), (.int 218 0), (.str "/claim/cut.py" 715)]), #[]⟩
noncomputable def a426 (P : Params) : Obj := ⟨(.type "function"), none, (.func ⟨"with_adjustment", "with_adjustment", fnA (st 40), .stmts (fnB (st 40)), fnS (st 40), 3, [], .none, .none, .none, (.str "joinedhand.sfnt" 524), none, (.ref 415), .none, 0⟩), #[]⟩
noncomputable def a427 (P : Params) : Obj := ⟨(.type "tuple"), none, (.seq #[] 0), #[]⟩
noncomputable def a428 (P : Params) : Obj := ⟨.none, none, (.fields #[]), #[]⟩
noncomputable def a429 (P : Params) : Obj := ⟨(.type "tuple"), none, (.seq #[(.str "version" 720), (.str "tables" 721), (.str "records" 722), (.str "parts" 723), (.str "spot" 724), (.str "begin" 725), (.str "tag" 726), (.str "body" 727), (.str "data" 728)] 0), #[]⟩
noncomputable def a430 (P : Params) : Obj := ⟨(.type "tuple"), none, (.seq #[] 0), #[]⟩
noncomputable def a431 (P : Params) : Obj := ⟨.none, none, (.func ⟨"write_sfnt", "write_sfnt", fnA (st 41), .stmts (fnB (st 41)), fnS (st 41), 0, [], .none, .none, .none, .none, none, .none, .none, 0⟩), #[]⟩
noncomputable def a432 (P : Params) : Obj := ⟨(.type "code"), none, (.fields #[(.str "write_sfnt" 717), (.str "write_sfnt" 718), (.str "/claim/cut.py" 719), (.int 222 0), (.int 2 0), (.int 0 0), (.int 0 0), (.int 3 0), (.ref 417), (.bool true), (.int 181 0), (.ref 418), .none, (.ref 419), (.ref 420), (.ref 421), (.int 729 0), (.int 222 0), (.str "/claim/cut.py" 730)]), #[]⟩
noncomputable def a433 (P : Params) : Obj := ⟨(.type "function"), none, (.func ⟨"write_sfnt", "write_sfnt", fnA (st 41), .stmts (fnB (st 41)), fnS (st 41), 3, [], .none, .none, .none, (.str "joinedhand.sfnt" 524), none, (.ref 422), .none, 0⟩), #[]⟩
noncomputable def a434 (P : Params) : Obj := ⟨(.type "tuple"), none, (.seq #[] 0), #[]⟩
noncomputable def a435 (P : Params) : Obj := ⟨.none, none, (.fields #[]), #[]⟩
noncomputable def a436 (P : Params) : Obj := ⟨(.type "tuple"), none, (.seq #[(.str "table" 737), (.str "found" 738), (.str "rule" 739), (.str "index" 740), (.str "lookup" 741)] 0), #[]⟩
noncomputable def a437 (P : Params) : Obj := ⟨(.type "tuple"), none, (.seq #[] 0), #[]⟩
noncomputable def a438 (P : Params) : Obj := ⟨.none, none, (.func ⟨"lookups_of", "lookups_of", fnA (st 43), .stmts (fnB (st 43)), fnS (st 43), 0, [], .none, .none, .none, .none, none, .none, .none, 0⟩), #[]⟩
noncomputable def a439 (P : Params) : Obj := ⟨(.type "code"), none, (.fields #[(.str "lookups_of" 734), (.str "lookups_of" 735), (.str "/claim/cut.py" 736), (.int 236 0), (.int 1 0), (.int 0 0), (.int 0 0), (.int 3 0), (.ref 424), (.bool true), (.int 181 0), (.ref 425), .none, (.ref 426), (.ref 427), (.ref 428), (.int 742 0), (.int 236 0), (.str "/claim/cut.py" 743)]), #[]⟩
noncomputable def a440 (P : Params) : Obj := ⟨(.type "function"), none, (.func ⟨"lookups_of", "lookups_of", fnA (st 43), .stmts (fnB (st 43)), fnS (st 43), 3, [], .none, .none, .none, (.str "joinedhand.contexts" 732), none, (.ref 429), .none, 0⟩), #[]⟩
noncomputable def a441 (P : Params) : Obj := ⟨(.type "tuple"), none, (.seq #[(.str "cmap" 749), (.str "head" 750), (.str "hhea" 751), (.str "hmtx" 752), (.str "maxp" 753)] 0), #[]⟩
noncomputable def a442 (P : Params) : Obj := ⟨(.type "tuple"), none, (.seq #[(.str "head" 755), (.str "hhea" 756), (.str "maxp" 757)] 0), #[]⟩
noncomputable def a443 (P : Params) : Obj := ⟨(.type "dict"), none, (.dict #[en P "__name__" 165 (.str "joinedhand.checker" 747), en P "__doc__" 166 .none, en P "__package__" 167 .none, en P "__loader__" 168 (.builtin "__main__.__loader__#opaque"), en P "__spec__" 169 .none, en P "__annotations__" 170 (.ref 6), en P "__builtins__" 171 (.ref 4), en P "__file__" 173 (.str "/claim/cut.py" 172), en P "__cached__" 174 .none, en P "_wall" 193 (.ref 21), en P "ShapeError" 237 (.ref 48), en P "TableFault" 253 (.ref 61), en P "FontFault" 269 (.ref 73), en P "USE_SET" 271 (.int 16 270), en P "check_room" 282 (.ref 82), en P "number_at" 293 (.ref 89), en P "u32_at" 301 (.ref 96), en P "OctetsIn" 405 (.ref 180), en P "number_octets" 411 (.ref 189), en P "OctetsOut" 513 (.ref 272), en P "checksum" 523 (.ref 283), en P "PLAIN" 527 (.int 65536 526), en P "OTTO" 529 (.int 1330926671 528), en P "APPLE" 531 (.int 1953658213 530), en P "VERSIONS" 532 (.ref 284), en P "HEADER_SIZE" 534 (.int 12 533), en P "RECORD_SIZE" 536 (.int 16 535), en P "MAGIC_SUM" 538 (.int 2981146554 537), en P "ADJUSTMENT" 540 (.int 8 539), en P "MOST_TABLES" 542 (.int 4095 541), en P "Record" 586 (.ref 308), en P "directory_size" 593 (.ref 319), en P "read_record" 605 (.ref 326), en P "need_in_order" 615 (.ref 333), en P "need_apart" 621 (.ref 338), en P "read_records" 627 (.ref 343), en P "tables_of" 633 (.ref 348), en P "read_directory" 642 (.ref 355), en P "has_adjustment" 650 (.ref 362), en P "unadjusted" 658 (.ref 369), en P "table_sum" 666 (.ref 376), en P "check_sums" 672 (.ref 381), en P "search_numbers" 681 (.ref 388), en P "to_fours" 688 (.ref 395), en P "need_tables" 697 (.ref 402), en P "directory_octets" 707 (.ref 409), en P "with_adjustment" 716 (.ref 416), en P "write_sfnt" 731 (.ref 423), en P "lookups_of" 744 (.ref 430), en P "MOST_DEPTH" 746 (.int 6 745), en P "NEEDED" 754 (.ref 431), en P "HEADS" 758 (.ref 432), en P "MOST_GLYPHS" 760 (.int 65536 759), en P "Finding" 800 (.ref 456), en P "findings_of" 806 (.ref 465), en P "substitute_glyphs" 820 (.ref 472), en P "context_glyphs" 832 (.ref 479), en P "pair_glyphs" 842 (.ref 486)] 58), #[]⟩
noncomputable def a444 (P : Params) : Obj := ⟨.none, none, (.fields #[(.int 1 0), (.int 0 0), (.ref 20), (.int 5 0), (.int 0 0), (.ref 28), (.int 14 0), (.int 0 0), (.ref 57), (.int 16 0), (.int 0 0), (.ref 69), (.int 20 0), (.int 0 0), (.ref 81), (.int 23 0), (.int 0 0), (.ref 88), (.int 29 0), (.int 0 0), (.ref 95), (.int 31 0), (.int 0 0), (.ref 102), (.int 72 0), (.int 0 0), (.ref 188), (.int 76 0), (.int 0 0), (.ref 195), (.int 112 0), (.int 0 0), (.ref 282), (.int 128 0), (.int 0 0), (.ref 290), (.int 139 0), (.int 0 0), (.ref 318), (.int 141 0), (.int 0 0), (.ref 325), (.int 147 0), (.int 0 0), (.ref 332), (.int 154 0), (.int 0 0), (.ref 337), (.int 161 0), (.int 0 0), (.ref 342), (.int 175 0), (.int 0 0), (.ref 347), (.int 177 0), (.int 0 0), (.ref 354), (.int 180 0), (.int 0 0), (.ref 361), (.int 182 0), (.int 0 0), (.ref 368), (.int 186 0), (.int 0 0), (.ref 375), (.int 188 0), (.int 0 0), (.ref 380), (.int 191 0), (.int 0 0), (.ref 387), (.int 197 0), (.int 0 0), (.ref 394), (.int 199 0), (.int 0 0), (.ref 401), (.int 207 0), (.int 0 0), (.ref 408), (.int 218 0), (.int 0 0), (.ref 415), (.int 222 0), (.int 0 0), (.ref 422), (.int 236 0), (.int 0 0), (.ref 429), (.int 247 0), (.int 0 0), (.ref 438), (.int 256 0), (.int 0 0), (.ref 464), (.int 258 0), (.int 0 0), (.ref 471), (.int 276 0), (.int 0 0), (.ref 478), (.int 292 0), (.int 0 0), (.ref 485)]), #[]⟩
noncomputable def a445 (P : Params) : Obj := ⟨(.type "tuple"), none, (.seq #[] 0), #[]⟩
noncomputable def a446 (P : Params) : Obj := ⟨(.type "builtin_function_or_method"), none, (.fields #[(.builtin "type.__prepare__"), (.type "type")]), #[]⟩
noncomputable def a447 (P : Params) : Obj := ⟨(.type "dict"), none, (.dict #[en P "__module__" 768 (.str "joinedhand.checker" 747), en P "__qualname__" 770 (.str "Finding" 769), en P "__firstlineno__" 772 (.int 247 771), en P "__init__" 782 (.ref 446), en P "told" 789 (.ref 453), en P "__static_attributes__" 793 (.ref 454)] 6), #[]⟩
noncomputable def a448 (P : Params) : Obj := ⟨(.type "tuple"), none, (.seq #[] 0), #[]⟩
noncomputable def a449 (P : Params) : Obj := ⟨.none, none, (.fields #[(.int 249 0), (.int 4 0), (.ref 445), (.int 254 0), (.int 4 0), (.ref 452)]), #[]⟩
noncomputable def a450 (P : Params) : Obj := ⟨(.type "code"), none, (.fields #[(.str "Finding" 763), (.str "Finding" 764), (.str "/claim/cut.py" 765), (.int 247 0), (.int 0 0), (.int 0 0), (.int 0 0), (.int 0 0), (.ref 436), (.bool false), (.int 181 0), (.ref 437), .none, .none, .none, .none, (.int 766 0), (.int 247 0), (.str "/claim/cut.py" 767)]), #[]⟩
noncomputable def a451 (P : Params) : Obj := ⟨(.type "frame"), none, .plain, #[(some (.ref 438)), (some (.ref 3)), (some (.ref 435)), none, (some (.str "joinedhand.checker" 747)), none, (some (.ref 0))]⟩
noncomputable def a452 (P : Params) : Obj := ⟨(.type "tuple"), none, (.seq #[] 0), #[]⟩
noncomputable def a453 (P : Params) : Obj := ⟨.none, none, (.fields #[]), #[]⟩
noncomputable def a454 (P : Params) : Obj := ⟨(.type "tuple"), none, (.seq #[(.str "self" 776), (.str "tag" 777), (.str "what" 778), (.str "at" 779)] 0), #[]⟩
noncomputable def a455 (P : Params) : Obj := ⟨(.type "tuple"), none, (.seq #[] 0), #[]⟩
noncomputable def a456 (P : Params) : Obj := ⟨.none, none, (.func ⟨"__init__", "Finding.__init__", fnA (mt 49 0), .stmts (fnB (mt 49 0)), fnS (mt 49 0), 0, [], .none, .none, .none, .none, none, .none, .none, 0⟩), #[]⟩
noncomputable def a457 (P : Params) : Obj := ⟨(.type "code"), none, (.fields #[(.str "__init__" 773), (.str "Finding.__init__" 774), (.str "/claim/cut.py" 775), (.int 249 0), (.int 4 0), (.int 0 0), (.int 0 0), (.int 3 0), (.ref 440), (.bool true), (.int 181 0), (.ref 441), .none, (.ref 442), (.ref 443), (.ref 444), (.int 780 0), (.int 249 0), (.str "/claim/cut.py" 781)]), #[]⟩
noncomputable def a458 (P : Params) : Obj := ⟨(.type "function"), none, (.func ⟨"__init__", "Finding.__init__", fnA (mt 49 0), .stmts (fnB (mt 49 0)), fnS (mt 49 0), 3, [], .none, .none, .none, (.str "joinedhand.checker" 747), none, (.ref 445), .none, 0⟩), #[]⟩
noncomputable def a459 (P : Params) : Obj := ⟨(.type "tuple"), none, (.seq #[] 0), #[]⟩
noncomputable def a460 (P : Params) : Obj := ⟨.none, none, (.fields #[]), #[]⟩
noncomputable def a461 (P : Params) : Obj := ⟨(.type "tuple"), none, (.seq #[(.str "self" 786)] 0), #[]⟩
noncomputable def a462 (P : Params) : Obj := ⟨(.type "tuple"), none, (.seq #[] 0), #[]⟩
noncomputable def a463 (P : Params) : Obj := ⟨.none, none, (.func ⟨"told", "Finding.told", fnA (mt 49 1), .stmts (fnB (mt 49 1)), fnS (mt 2 1), 0, [], .none, .none, .none, .none, none, .none, .none, 0⟩), #[]⟩
noncomputable def a464 (P : Params) : Obj := ⟨(.type "code"), none, (.fields #[(.str "told" 783), (.str "Finding.told" 784), (.str "/claim/cut.py" 785), (.int 254 0), (.int 1 0), (.int 0 0), (.int 0 0), (.int 3 0), (.ref 447), (.bool true), (.int 181 0), (.ref 448), .none, (.ref 449), (.ref 450), (.ref 451), (.int 787 0), (.int 254 0), (.str "/claim/cut.py" 788)]), #[]⟩
noncomputable def a465 (P : Params) : Obj := ⟨(.type "function"), none, (.func ⟨"told", "Finding.told", fnA (mt 49 1), .stmts (fnB (mt 49 1)), fnS (mt 2 1), 3, [], .none, .none, .none, (.str "joinedhand.checker" 747), none, (.ref 452), .none, 0⟩), #[]⟩
noncomputable def a466 (P : Params) : Obj := ⟨(.type "tuple"), none, (.seq #[(.str "at" 790), (.str "tag" 791), (.str "what" 792)] 0), #[]⟩
noncomputable def a467 (P : Params) : Obj := ⟨(.type "dict"), none, (.dict #[en P "__module__" 768 (.str "joinedhand.checker" 747), en P "__firstlineno__" 772 (.int 247 771), en P "__init__" 782 (.ref 446), en P "told" 789 (.ref 453), en P "__static_attributes__" 793 (.ref 454), en P "__dict__" 795 (.ref 457), en P "__weakref__" 797 (.ref 458), en P "__doc__" 798 .none] 4), #[]⟩
noncomputable def a468 (P : Params) : Obj := ⟨(.type "type"), none, (.cls ⟨"Finding", [(.type "object")], [(.ref 456), (.type "object")], 455, "Finding", true, [], [], false, none, false⟩), #[none, none, (some (.str "Finding" 761)), (some (.str "Finding" 769)), (some (.builtin "object.__new__")), (some (.bool true))]⟩
noncomputable def a469 (P : Params) : Obj := ⟨(.type "getset_descriptor"), none, (.fields #[(.str "__dict__" 794), (.ref 456), (.builtin "function.__dict__"), (.builtin "function.__dict__#set")]), #[]⟩
noncomputable def a470 (P : Params) : Obj := ⟨(.type "getset_descriptor"), none, (.fields #[(.str "__weakref__" 796), (.ref 456), (.builtin "ExceptionGroup.__weakref__"), .none]), #[]⟩
noncomputable def a471 (P : Params) : Obj := ⟨(.type "super"), none, (.fields #[(.ref 456), (.ref 456), (.ref 456)]), #[]⟩
noncomputable def a472 (P : Params) : Obj := ⟨(.type "builtin_function_or_method"), none, (.fields #[(.builtin "object.__init_subclass__"), (.ref 456)]), #[]⟩
noncomputable def a473 (P : Params) : Obj := ⟨(.type "tuple"), none, (.seq #[] 0), #[]⟩
noncomputable def a474 (P : Params) : Obj := ⟨.none, none, (.fields #[]), #[]⟩
noncomputable def a475 (P : Params) : Obj := ⟨.none, none, (.func ⟨"findings_of", "findings_of", fnA (st 50), .stmts (fnB (st 50)), fnS (st 50), 0, [], .none, .none, .none, .none, none, .none, .none, 0⟩), #[]⟩
noncomputable def a476 (P : Params) : Obj := ⟨(.type "code"), none, (.fields #[(.str "findings_of" 801), (.str "findings_of" 802), (.str "/claim/cut.py" 803), (.int 256 0), (.int 3 0), (.int 0 0), (.int 0 0), (.int 3 0), (.ref 461), (.bool true), (.int 181 0), (.ref 462), .none, .none, .none, (.ref 463), (.int 804 0), (.int 256 0), (.str "/claim/cut.py" 805)]), #[]⟩
noncomputable def a477 (P : Params) : Obj := ⟨(.type "function"), none, (.func ⟨"findings_of", "findings_of", fnA (st 50), .stmts (fnB (st 50)), fnS (st 50), 3, [], .none, .none, .none, (.str "joinedhand.checker" 747), none, (.ref 464), .none, 0⟩), #[]⟩
noncomputable def a478 (P : Params) : Obj := ⟨(.type "tuple"), none, (.seq #[] 0), #[]⟩
noncomputable def a479 (P : Params) : Obj := ⟨.none, none, (.fields #[]), #[]⟩
noncomputable def a480 (P : Params) : Obj := ⟨(.type "tuple"), none, (.seq #[(.str "kind" 810), (.str "table" 811), (.str "found" 812), (.str "first" 813), (.str "rest" 814), (.str "ligature" 815), (.str "glyph" 816), (.str "coverage" 817)] 0), #[]⟩
noncomputable def a481 (P : Params) : Obj := ⟨(.type "tuple"), none, (.seq #[] 0), #[]⟩
noncomputable def a482 (P : Params) : Obj := ⟨.none, none, (.func ⟨"substitute_glyphs", "substitute_glyphs", fnA (st 51), .stmts (fnB (st 51)), fnS (st 51), 0, [], .none, .none, .none, .none, none, .none, .none, 0⟩), #[]⟩
noncomputable def a483 (P : Params) : Obj := ⟨(.type "code"), none, (.fields #[(.str "substitute_glyphs" 807), (.str "substitute_glyphs" 808), (.str "/claim/cut.py" 809), (.int 258 0), (.int 2 0), (.int 0 0), (.int 0 0), (.int 3 0), (.ref 466), (.bool true), (.int 181 0), (.ref 467), .none, (.ref 468), (.ref 469), (.ref 470), (.int 818 0), (.int 258 0), (.str "/claim/cut.py" 819)]), #[]⟩
noncomputable def a484 (P : Params) : Obj := ⟨(.type "function"), none, (.func ⟨"substitute_glyphs", "substitute_glyphs", fnA (st 51), .stmts (fnB (st 51)), fnS (st 51), 3, [], .none, .none, .none, (.str "joinedhand.checker" 747), none, (.ref 471), .none, 0⟩), #[]⟩
noncomputable def a485 (P : Params) : Obj := ⟨(.type "tuple"), none, (.seq #[] 0), #[]⟩
noncomputable def a486 (P : Params) : Obj := ⟨.none, none, (.fields #[]), #[]⟩
noncomputable def a487 (P : Params) : Obj := ⟨(.type "tuple"), none, (.seq #[(.str "table" 824), (.str "found" 825), (.str "classdef" 826), (.str "rule" 827), (.str "row" 828), (.str "coverage" 829)] 0), #[]⟩
noncomputable def a488 (P : Params) : Obj := ⟨(.type "tuple"), none, (.seq #[] 0), #[]⟩
noncomputable def a489 (P : Params) : Obj := ⟨.none, none, (.func ⟨"context_glyphs", "context_glyphs", fnA (st 52), .stmts (fnB (st 52)), fnS (st 52), 0, [], .none, .none, .none, .none, none, .none, .none, 0⟩), #[]⟩
noncomputable def a490 (P : Params) : Obj := ⟨(.type "code"), none, (.fields #[(.str "context_glyphs" 821), (.str "context_glyphs" 822), (.str "/claim/cut.py" 823), (.int 276 0), (.int 1 0), (.int 0 0), (.int 0 0), (.int 3 0), (.ref 473), (.bool true), (.int 181 0), (.ref 474), .none, (.ref 475), (.ref 476), (.ref 477), (.int 830 0), (.int 276 0), (.str "/claim/cut.py" 831)]), #[]⟩
noncomputable def a491 (P : Params) : Obj := ⟨(.type "function"), none, (.func ⟨"context_glyphs", "context_glyphs", fnA (st 52), .stmts (fnB (st 52)), fnS (st 52), 3, [], .none, .none, .none, (.str "joinedhand.checker" 747), none, (.ref 478), .none, 0⟩), #[]⟩
noncomputable def a492 (P : Params) : Obj := ⟨(.type "tuple"), none, (.seq #[] 0), #[]⟩
noncomputable def a493 (P : Params) : Obj := ⟨.none, none, (.fields #[]), #[]⟩
noncomputable def a494 (P : Params) : Obj := ⟨(.type "tuple"), none, (.seq #[(.str "table" 836), (.str "found" 837), (.str "first" 838), (.str "second" 839)] 0), #[]⟩
noncomputable def a495 (P : Params) : Obj := ⟨(.type "tuple"), none, (.seq #[] 0), #[]⟩
noncomputable def a496 (P : Params) : Obj := ⟨.none, none, (.func ⟨"pair_glyphs", "pair_glyphs", fnA (st 53), .stmts (fnB (st 53)), fnS (st 53), 0, [], .none, .none, .none, .none, none, .none, .none, 0⟩), #[]⟩
noncomputable def a497 (P : Params) : Obj := ⟨(.type "code"), none, (.fields #[(.str "pair_glyphs" 833), (.str "pair_glyphs" 834), (.str "/claim/cut.py" 835), (.int 292 0), (.int 1 0), (.int 0 0), (.int 0 0), (.int 3 0), (.ref 480), (.bool true), (.int 181 0), (.ref 481), .none, (.ref 482), (.ref 483), (.ref 484), (.int 840 0), (.int 292 0), (.str "/claim/cut.py" 841)]), #[]⟩
noncomputable def a498 (P : Params) : Obj := ⟨(.type "function"), none, (.func ⟨"pair_glyphs", "pair_glyphs", fnA (st 53), .stmts (fnB (st 53)), fnS (st 53), 3, [], .none, .none, .none, (.str "joinedhand.checker" 747), none, (.ref 485), .none, 0⟩), #[]⟩
noncomputable def a499 (P : Params) : Obj := ⟨(.type "dict"), none, (.dict #[en P "__name__" 165 (.str "joinedhand.checker" 747), en P "__doc__" 166 .none, en P "__package__" 167 .none, en P "__loader__" 168 (.builtin "__main__.__loader__#opaque"), en P "__spec__" 169 .none, en P "__annotations__" 170 (.ref 6), en P "__builtins__" 171 (.ref 4), en P "__file__" 173 (.str "/claim/cut.py" 172), en P "__cached__" 174 .none, en P "_wall" 193 (.ref 21), en P "ShapeError" 237 (.ref 48), en P "TableFault" 253 (.ref 61), en P "FontFault" 269 (.ref 73), en P "USE_SET" 271 (.int 16 270), en P "check_room" 282 (.ref 82), en P "number_at" 293 (.ref 89), en P "u32_at" 301 (.ref 96), en P "OctetsIn" 405 (.ref 180), en P "number_octets" 411 (.ref 189), en P "OctetsOut" 513 (.ref 272), en P "checksum" 523 (.ref 283), en P "PLAIN" 527 (.int 65536 526), en P "OTTO" 529 (.int 1330926671 528), en P "APPLE" 531 (.int 1953658213 530), en P "VERSIONS" 532 (.ref 284), en P "HEADER_SIZE" 534 (.int 12 533), en P "RECORD_SIZE" 536 (.int 16 535), en P "MAGIC_SUM" 538 (.int 2981146554 537), en P "ADJUSTMENT" 540 (.int 8 539), en P "MOST_TABLES" 542 (.int 4095 541), en P "Record" 586 (.ref 308), en P "directory_size" 593 (.ref 319), en P "read_record" 605 (.ref 326), en P "need_in_order" 615 (.ref 333), en P "need_apart" 621 (.ref 338), en P "read_records" 627 (.ref 343), en P "tables_of" 633 (.ref 348), en P "read_directory" 642 (.ref 355), en P "has_adjustment" 650 (.ref 362), en P "unadjusted" 658 (.ref 369), en P "table_sum" 666 (.ref 376), en P "check_sums" 672 (.ref 381), en P "search_numbers" 681 (.ref 388), en P "to_fours" 688 (.ref 395), en P "need_tables" 697 (.ref 402), en P "directory_octets" 707 (.ref 409), en P "with_adjustment" 716 (.ref 416), en P "write_sfnt" 731 (.ref 423), en P "lookups_of" 744 (.ref 430), en P "MOST_DEPTH" 746 (.int 6 745), en P "NEEDED" 754 (.ref 431), en P "HEADS" 758 (.ref 432), en P "MOST_GLYPHS" 760 (.int 65536 759), en P "Finding" 800 (.ref 456), en P "findings_of" 806 (.ref 465), en P "substitute_glyphs" 820 (.ref 472), en P "context_glyphs" 832 (.ref 479), en P "pair_glyphs" 842 (.ref 486), en P "table_glyphs" 851 (.ref 493), en P "layout_glyphs" 861 (.ref 500), en P "charmap_glyphs" 867 (.ref 505), en P "gdef_glyphs" 876 (.ref 512), en P "next_lookups" 885 (.ref 519), en P "reached" 891 (.ref 524), en P "depths" 897 (.ref 529), en P "on_rings" 903 (.ref 534), en P "is_behind" 913 (.ref 541), en P "langsys_of" 919 (.ref 546), en P "number_findings" 925 (.ref 551), en P "glyph_findings" 931 (.ref 556), en P "tried" 942 (.ref 563), en P "check_tables" 948 (.ref 568)] 72), #[]⟩
noncomputable def a500 (P : Params) : Obj := ⟨.none, none, (.fields #[(.int 1 0), (.int 0 0), (.ref 20), (.int 5 0), (.int 0 0), (.ref 28), (.int 14 0), (.int 0 0), (.ref 57), (.int 16 0), (.int 0 0), (.ref 69), (.int 20 0), (.int 0 0), (.ref 81), (.int 23 0), (.int 0 0), (.ref 88), (.int 29 0), (.int 0 0), (.ref 95), (.int 31 0), (.int 0 0), (.ref 102), (.int 72 0), (.int 0 0), (.ref 188), (.int 76 0), (.int 0 0), (.ref 195), (.int 112 0), (.int 0 0), (.ref 282), (.int 128 0), (.int 0 0), (.ref 290), (.int 139 0), (.int 0 0), (.ref 318), (.int 141 0), (.int 0 0), (.ref 325), (.int 147 0), (.int 0 0), (.ref 332), (.int 154 0), (.int 0 0), (.ref 337), (.int 161 0), (.int 0 0), (.ref 342), (.int 175 0), (.int 0 0), (.ref 347), (.int 177 0), (.int 0 0), (.ref 354), (.int 180 0), (.int 0 0), (.ref 361), (.int 182 0), (.int 0 0), (.ref 368), (.int 186 0), (.int 0 0), (.ref 375), (.int 188 0), (.int 0 0), (.ref 380), (.int 191 0), (.int 0 0), (.ref 387), (.int 197 0), (.int 0 0), (.ref 394), (.int 199 0), (.int 0 0), (.ref 401), (.int 207 0), (.int 0 0), (.ref 408), (.int 218 0), (.int 0 0), (.ref 415), (.int 222 0), (.int 0 0), (.ref 422), (.int 236 0), (.int 0 0), (.ref 429), (.int 247 0), (.int 0 0), (.ref 438), (.int 256 0), (.int 0 0), (.ref 464), (.int 258 0), (.int 0 0), (.ref 471), (.int 276 0), (.int 0 0), (.ref 478), (.int 292 0), (.int 0 0), (.ref 485), (.int 299 0), (.int 0 0), (.ref 492), (.int 317 0), (.int 0 0), (.ref 499), (.int 323 0), (.int 0 0), (.ref 504), (.int 328 0), (.int 0 0), (.ref 511), (.int 333 0), (.int 0 0), (.ref 518), (.int 339 0), (.int 0 0), (.ref 523), (.int 348 0), (.int 0 0), (.ref 528), (.int 368 0), (.int 0 0), (.ref 533), (.int 371 0), (.int 0 0), (.ref 540), (.int 377 0), (.int 0 0), (.ref 545), (.int 385 0), (.int 0 0), (.ref 550), (.int 408 0), (.int 0 0), (.ref 555), (.int 410 0), (.int 0 0), (.ref 562), (.int 418 0), (.int 0 0), (.ref 567)]), #[]⟩
noncomputable def a501 (P : Params) : Obj := ⟨(.type "tuple"), none, (.seq #[] 0), #[]⟩
noncomputable def a502 (P : Params) : Obj := ⟨.none, none, (.fields #[]), #[]⟩
noncomputable def a503 (P : Params) : Obj := ⟨(.type "tuple"), none, (.seq #[(.str "kind" 846), (.str "table" 847), (.str "found" 848)] 0), #[]⟩
noncomputable def a504 (P : Params) : Obj := ⟨(.type "tuple"), none, (.seq #[] 0), #[]⟩
noncomputable def a505 (P : Params) : Obj := ⟨.none, none, (.func ⟨"table_glyphs", "table_glyphs", fnA (st 54), .stmts (fnB (st 54)), fnS (st 54), 0, [], .none, .none, .none, .none, none, .none, .none, 0⟩), #[]⟩
noncomputable def a506 (P : Params) : Obj := ⟨(.type "code"), none, (.fields #[(.str "table_glyphs" 843), (.str "table_glyphs" 844), (.str "/claim/cut.py" 845), (.int 299 0), (.int 2 0), (.int 0 0), (.int 0 0), (.int 3 0), (.ref 487), (.bool true), (.int 181 0), (.ref 488), .none, (.ref 489), (.ref 490), (.ref 491), (.int 849 0), (.int 299 0), (.str "/claim/cut.py" 850)]), #[]⟩
noncomputable def a507 (P : Params) : Obj := ⟨(.type "function"), none, (.func ⟨"table_glyphs", "table_glyphs", fnA (st 54), .stmts (fnB (st 54)), fnS (st 54), 3, [], .none, .none, .none, (.str "joinedhand.checker" 747), none, (.ref 492), .none, 0⟩), #[]⟩
noncomputable def a508 (P : Params) : Obj := ⟨(.type "tuple"), none, (.seq #[] 0), #[]⟩
noncomputable def a509 (P : Params) : Obj := ⟨.none, none, (.fields #[]), #[]⟩
noncomputable def a510 (P : Params) : Obj := ⟨(.type "tuple"), none, (.seq #[(.str "layout" 855), (.str "found" 856), (.str "lookup" 857), (.str "table" 858)] 0), #[]⟩
noncomputable def a511 (P : Params) : Obj := ⟨(.type "tuple"), none, (.seq #[] 0), #[]⟩
noncomputable def a512 (P : Params) : Obj := ⟨.none, none, (.func ⟨"layout_glyphs", "layout_glyphs", fnA (st 55), .stmts (fnB (st 55)), fnS (st 55), 0, [], .none, .none, .none, .none, none, .none, .none, 0⟩), #[]⟩
noncomputable def a513 (P : Params) : Obj := ⟨(.type "code"), none, (.fields #[(.str "layout_glyphs" 852), (.str "layout_glyphs" 853), (.str "/claim/cut.py" 854), (.int 317 0), (.int 1 0), (.int 0 0), (.int 0 0), (.int 3 0), (.ref 494), (.bool true), (.int 181 0), (.ref 495), .none, (.ref 496), (.ref 497), (.ref 498), (.int 859 0), (.int 317 0), (.str "/claim/cut.py" 860)]), #[]⟩
noncomputable def a514 (P : Params) : Obj := ⟨(.type "function"), none, (.func ⟨"layout_glyphs", "layout_glyphs", fnA (st 55), .stmts (fnB (st 55)), fnS (st 55), 3, [], .none, .none, .none, (.str "joinedhand.checker" 747), none, (.ref 499), .none, 0⟩), #[]⟩
noncomputable def a515 (P : Params) : Obj := ⟨(.type "tuple"), none, (.seq #[] 0), #[]⟩
noncomputable def a516 (P : Params) : Obj := ⟨.none, none, (.fields #[]), #[]⟩
noncomputable def a517 (P : Params) : Obj := ⟨.none, none, (.func ⟨"charmap_glyphs", "charmap_glyphs", fnA (st 56), .stmts (fnB (st 56)), fnS (st 56), 0, [], .none, .none, .none, .none, none, .none, .none, 0⟩), #[]⟩
noncomputable def a518 (P : Params) : Obj := ⟨(.type "code"), none, (.fields #[(.str "charmap_glyphs" 862), (.str "charmap_glyphs" 863), (.str "/claim/cut.py" 864), (.int 323 0), (.int 1 0), (.int 0 0), (.int 0 0), (.int 3 0), (.ref 501), (.bool true), (.int 181 0), (.ref 502), .none, .none, .none, (.ref 503), (.int 865 0), (.int 323 0), (.str "/claim/cut.py" 866)]), #[]⟩
noncomputable def a519 (P : Params) : Obj := ⟨(.type "function"), none, (.func ⟨"charmap_glyphs", "charmap_glyphs", fnA (st 56), .stmts (fnB (st 56)), fnS (st 56), 3, [], .none, .none, .none, (.str "joinedhand.checker" 747), none, (.ref 504), .none, 0⟩), #[]⟩
noncomputable def a520 (P : Params) : Obj := ⟨(.type "tuple"), none, (.seq #[] 0), #[]⟩
noncomputable def a521 (P : Params) : Obj := ⟨.none, none, (.fields #[]), #[]⟩
noncomputable def a522 (P : Params) : Obj := ⟨(.type "tuple"), none, (.seq #[(.str "gdef" 871), (.str "found" 872), (.str "coverage" 873)] 0), #[]⟩
noncomputable def a523 (P : Params) : Obj := ⟨(.type "tuple"), none, (.seq #[] 0), #[]⟩
noncomputable def a524 (P : Params) : Obj := ⟨.none, none, (.func ⟨"gdef_glyphs", "gdef_glyphs", fnA (st 57), .stmts (fnB (st 57)), fnS (st 57), 0, [], .none, .none, .none, .none, none, .none, .none, 0⟩), #[]⟩
noncomputable def a525 (P : Params) : Obj := ⟨(.type "code"), none, (.fields #[(.str "gdef_glyphs" 868), (.str "gdef_glyphs" 869), (.str "/claim/cut.py" 870), (.int 328 0), (.int 1 0), (.int 0 0), (.int 0 0), (.int 3 0), (.ref 506), (.bool true), (.int 181 0), (.ref 507), .none, (.ref 508), (.ref 509), (.ref 510), (.int 874 0), (.int 328 0), (.str "/claim/cut.py" 875)]), #[]⟩
noncomputable def a526 (P : Params) : Obj := ⟨(.type "function"), none, (.func ⟨"gdef_glyphs", "gdef_glyphs", fnA (st 57), .stmts (fnB (st 57)), fnS (st 57), 3, [], .none, .none, .none, (.str "joinedhand.checker" 747), none, (.ref 511), .none, 0⟩), #[]⟩
noncomputable def a527 (P : Params) : Obj := ⟨(.type "tuple"), none, (.seq #[] 0), #[]⟩
noncomputable def a528 (P : Params) : Obj := ⟨.none, none, (.fields #[]), #[]⟩
noncomputable def a529 (P : Params) : Obj := ⟨(.type "tuple"), none, (.seq #[(.str "lookup" 880), (.str "found" 881), (.str "table" 882)] 0), #[]⟩
noncomputable def a530 (P : Params) : Obj := ⟨(.type "tuple"), none, (.seq #[] 0), #[]⟩
noncomputable def a531 (P : Params) : Obj := ⟨.none, none, (.func ⟨"next_lookups", "next_lookups", fnA (st 58), .stmts (fnB (st 58)), fnS (st 58), 0, [], .none, .none, .none, .none, none, .none, .none, 0⟩), #[]⟩
noncomputable def a532 (P : Params) : Obj := ⟨(.type "code"), none, (.fields #[(.str "next_lookups" 877), (.str "next_lookups" 878), (.str "/claim/cut.py" 879), (.int 333 0), (.int 1 0), (.int 0 0), (.int 0 0), (.int 3 0), (.ref 513), (.bool true), (.int 181 0), (.ref 514), .none, (.ref 515), (.ref 516), (.ref 517), (.int 883 0), (.int 333 0), (.str "/claim/cut.py" 884)]), #[]⟩
noncomputable def a533 (P : Params) : Obj := ⟨(.type "function"), none, (.func ⟨"next_lookups", "next_lookups", fnA (st 58), .stmts (fnB (st 58)), fnS (st 58), 3, [], .none, .none, .none, (.str "joinedhand.checker" 747), none, (.ref 518), .none, 0⟩), #[]⟩
noncomputable def a534 (P : Params) : Obj := ⟨(.type "tuple"), none, (.seq #[] 0), #[]⟩
noncomputable def a535 (P : Params) : Obj := ⟨.none, none, (.fields #[]), #[]⟩
noncomputable def a536 (P : Params) : Obj := ⟨.none, none, (.func ⟨"reached", "reached", fnA (st 59), .stmts (fnB (st 59)), fnS (st 59), 0, [], .none, .none, .none, .none, none, .none, .none, 0⟩), #[]⟩
noncomputable def a537 (P : Params) : Obj := ⟨(.type "code"), none, (.fields #[(.str "reached" 886), (.str "reached" 887), (.str "/claim/cut.py" 888), (.int 339 0), (.int 2 0), (.int 0 0), (.int 0 0), (.int 3 0), (.ref 520), (.bool true), (.int 181 0), (.ref 521), .none, .none, .none, (.ref 522), (.int 889 0), (.int 339 0), (.str "/claim/cut.py" 890)]), #[]⟩
noncomputable def a538 (P : Params) : Obj := ⟨(.type "function"), none, (.func ⟨"reached", "reached", fnA (st 59), .stmts (fnB (st 59)), fnS (st 59), 3, [], .none, .none, .none, (.str "joinedhand.checker" 747), none, (.ref 523), .none, 0⟩), #[]⟩
noncomputable def a539 (P : Params) : Obj := ⟨(.type "tuple"), none, (.seq #[] 0), #[]⟩
noncomputable def a540 (P : Params) : Obj := ⟨.none, none, (.fields #[]), #[]⟩
noncomputable def a541 (P : Params) : Obj := ⟨.none, none, (.func ⟨"depths", "depths", fnA (st 60), .stmts (fnB (st 60)), fnS (st 60), 0, [], .none, .none, .none, .none, none, .none, .none, 0⟩), #[]⟩
noncomputable def a542 (P : Params) : Obj := ⟨(.type "code"), none, (.fields #[(.str "depths" 892), (.str "depths" 893), (.str "/claim/cut.py" 894), (.int 348 0), (.int 1 0), (.int 0 0), (.int 0 0), (.int 3 0), (.ref 525), (.bool true), (.int 181 0), (.ref 526), .none, .none, .none, (.ref 527), (.int 895 0), (.int 348 0), (.str "/claim/cut.py" 896)]), #[]⟩
noncomputable def a543 (P : Params) : Obj := ⟨(.type "function"), none, (.func ⟨"depths", "depths", fnA (st 60), .stmts (fnB (st 60)), fnS (st 60), 3, [], .none, .none, .none, (.str "joinedhand.checker" 747), none, (.ref 528), .none, 0⟩), #[]⟩
noncomputable def a544 (P : Params) : Obj := ⟨(.type "tuple"), none, (.seq #[] 0), #[]⟩
noncomputable def a545 (P : Params) : Obj := ⟨.none, none, (.fields #[]), #[]⟩
noncomputable def a546 (P : Params) : Obj := ⟨.none, none, (.func ⟨"on_rings", "on_rings", fnA (st 61), .stmts (fnB (st 61)), fnS (st 61), 0, [], .none, .none, .none, .none, none, .none, .none, 0⟩), #[]⟩
noncomputable def a547 (P : Params) : Obj := ⟨(.type "code"), none, (.fields #[(.str "on_rings" 898), (.str "on_rings" 899), (.str "/claim/cut.py" 900), (.int 368 0), (.int 1 0), (.int 0 0), (.int 0 0), (.int 3 0), (.ref 530), (.bool true), (.int 181 0), (.ref 531), .none, .none, .none, (.ref 532), (.int 901 0), (.int 368 0), (.str "/claim/cut.py" 902)]), #[]⟩
noncomputable def a548 (P : Params) : Obj := ⟨(.type "function"), none, (.func ⟨"on_rings", "on_rings", fnA (st 61), .stmts (fnB (st 61)), fnS (st 61), 3, [], .none, .none, .none, (.str "joinedhand.checker" 747), none, (.ref 533), .none, 0⟩), #[]⟩
noncomputable def a549 (P : Params) : Obj := ⟨(.type "tuple"), none, (.seq #[] 0), #[]⟩
noncomputable def a550 (P : Params) : Obj := ⟨.none, none, (.fields #[]), #[]⟩
noncomputable def a551 (P : Params) : Obj := ⟨(.type "tuple"), none, (.seq #[(.str "table" 907), (.str "rule" 908), (.str "index" 909), (.str "number" 910)] 0), #[]⟩
noncomputable def a552 (P : Params) : Obj := ⟨(.type "tuple"), none, (.seq #[] 0), #[]⟩
noncomputable def a553 (P : Params) : Obj := ⟨.none, none, (.func ⟨"is_behind", "is_behind", fnA (st 62), .stmts (fnB (st 62)), fnS (st 62), 0, [], .none, .none, .none, .none, none, .none, .none, 0⟩), #[]⟩
noncomputable def a554 (P : Params) : Obj := ⟨(.type "code"), none, (.fields #[(.str "is_behind" 904), (.str "is_behind" 905), (.str "/claim/cut.py" 906), (.int 371 0), (.int 1 0), (.int 0 0), (.int 0 0), (.int 3 0), (.ref 535), (.bool true), (.int 181 0), (.ref 536), .none, (.ref 537), (.ref 538), (.ref 539), (.int 911 0), (.int 371 0), (.str "/claim/cut.py" 912)]), #[]⟩
noncomputable def a555 (P : Params) : Obj := ⟨(.type "function"), none, (.func ⟨"is_behind", "is_behind", fnA (st 62), .stmts (fnB (st 62)), fnS (st 62), 3, [], .none, .none, .none, (.str "joinedhand.checker" 747), none, (.ref 540), .none, 0⟩), #[]⟩
noncomputable def a556 (P : Params) : Obj := ⟨(.type "tuple"), none, (.seq #[] 0), #[]⟩
noncomputable def a557 (P : Params) : Obj := ⟨.none, none, (.fields #[]), #[]⟩
noncomputable def a558 (P : Params) : Obj := ⟨.none, none, (.func ⟨"langsys_of", "langsys_of", fnA (st 63), .stmts (fnB (st 63)), fnS (st 63), 0, [], .none, .none, .none, .none, none, .none, .none, 0⟩), #[]⟩
noncomputable def a559 (P : Params) : Obj := ⟨(.type "code"), none, (.fields #[(.str "langsys_of" 914), (.str "langsys_of" 915), (.str "/claim/cut.py" 916), (.int 377 0), (.int 1 0), (.int 0 0), (.int 0 0), (.int 3 0), (.ref 542), (.bool true), (.int 181 0), (.ref 543), .none, .none, .none, (.ref 544), (.int 917 0), (.int 377 0), (.str "/claim/cut.py" 918)]), #[]⟩
noncomputable def a560 (P : Params) : Obj := ⟨(.type "function"), none, (.func ⟨"langsys_of", "langsys_of", fnA (st 63), .stmts (fnB (st 63)), fnS (st 63), 3, [], .none, .none, .none, (.str "joinedhand.checker" 747), none, (.ref 545), .none, 0⟩), #[]⟩
noncomputable def a561 (P : Params) : Obj := ⟨(.type "tuple"), none, (.seq #[] 0), #[]⟩
noncomputable def a562 (P : Params) : Obj := ⟨.none, none, (.fields #[]), #[]⟩
noncomputable def a563 (P : Params) : Obj := ⟨.none, none, (.func ⟨"number_findings", "number_findings", fnA (st 64), .stmts (fnB (st 64)), fnS (st 64), 0, [], .none, .none, .none, .none, none, .none, .none, 0⟩), #[]⟩
noncomputable def a564 (P : Params) : Obj := ⟨(.type "code"), none, (.fields #[(.str "number_findings" 920), (.str "number_findings" 921), (.str "/claim/cut.py" 922), (.int 385 0), (.int 3 0), (.int 0 0), (.int 0 0), (.int 3 0), (.ref 547), (.bool true), (.int 181 0), (.ref 548), .none, .none, .none, (.ref 549), (.int 923 0), (.int 385 0), (.str "/claim/cut.py" 924)]), #[]⟩
noncomputable def a565 (P : Params) : Obj := ⟨(.type "function"), none, (.func ⟨"number_findings", "number_findings", fnA (st 64), .stmts (fnB (st 64)), fnS (st 64), 3, [], .none, .none, .none, (.str "joinedhand.checker" 747), none, (.ref 550), .none, 0⟩), #[]⟩
noncomputable def a566 (P : Params) : Obj := ⟨(.type "tuple"), none, (.seq #[] 0), #[]⟩
noncomputable def a567 (P : Params) : Obj := ⟨.none, none, (.fields #[]), #[]⟩
noncomputable def a568 (P : Params) : Obj := ⟨.none, none, (.func ⟨"glyph_findings", "glyph_findings", fnA (st 65), .stmts (fnB (st 65)), fnS (st 65), 0, [], .none, .none, .none, .none, none, .none, .none, 0⟩), #[]⟩
noncomputable def a569 (P : Params) : Obj := ⟨(.type "code"), none, (.fields #[(.str "glyph_findings" 926), (.str "glyph_findings" 927), (.str "/claim/cut.py" 928), (.int 408 0), (.int 3 0), (.int 0 0), (.int 0 0), (.int 3 0), (.ref 552), (.bool true), (.int 181 0), (.ref 553), .none, .none, .none, (.ref 554), (.int 929 0), (.int 408 0), (.str "/claim/cut.py" 930)]), #[]⟩
noncomputable def a570 (P : Params) : Obj := ⟨(.type "function"), none, (.func ⟨"glyph_findings", "glyph_findings", fnA (st 65), .stmts (fnB (st 65)), fnS (st 65), 3, [], .none, .none, .none, (.str "joinedhand.checker" 747), none, (.ref 555), .none, 0⟩), #[]⟩
noncomputable def a571 (P : Params) : Obj := ⟨(.type "tuple"), none, (.seq #[] 0), #[]⟩
noncomputable def a572 (P : Params) : Obj := ⟨.none, none, (.fields #[]), #[]⟩
noncomputable def a573 (P : Params) : Obj := ⟨(.type "tuple"), none, (.seq #[(.str "tag" 935), (.str "tables" 936), (.str "read" 937), (.str "found" 938), (.str "fault" 939)] 0), #[]⟩
noncomputable def a574 (P : Params) : Obj := ⟨(.type "tuple"), none, (.seq #[] 0), #[]⟩
noncomputable def a575 (P : Params) : Obj := ⟨.none, none, (.func ⟨"tried", "tried", fnA (st 66), .stmts (fnB (st 66)), fnS (st 66), 0, [], .none, .none, .none, .none, none, .none, .none, 0⟩), #[]⟩
noncomputable def a576 (P : Params) : Obj := ⟨(.type "code"), none, (.fields #[(.str "tried" 932), (.str "tried" 933), (.str "/claim/cut.py" 934), (.int 410 0), (.int 4 0), (.int 0 0), (.int 0 0), (.int 3 0), (.ref 557), (.bool true), (.int 181 0), (.ref 558), .none, (.ref 559), (.ref 560), (.ref 561), (.int 940 0), (.int 410 0), (.str "/claim/cut.py" 941)]), #[]⟩
noncomputable def a577 (P : Params) : Obj := ⟨(.type "function"), none, (.func ⟨"tried", "tried", fnA (st 66), .stmts (fnB (st 66)), fnS (st 66), 3, [], .none, .none, .none, (.str "joinedhand.checker" 747), none, (.ref 562), .none, 0⟩), #[]⟩
noncomputable def a578 (P : Params) : Obj := ⟨(.type "tuple"), none, (.seq #[] 0), #[]⟩
noncomputable def a579 (P : Params) : Obj := ⟨.none, none, (.fields #[]), #[]⟩
noncomputable def a580 (P : Params) : Obj := ⟨.none, none, (.func ⟨"check_tables", "check_tables", fnA (st 67), .stmts (fnB (st 67)), fnS (st 67), 0, [], .none, .none, .none, .none, none, .none, .none, 0⟩), #[]⟩
noncomputable def a581 (P : Params) : Obj := ⟨(.type "code"), none, (.fields #[(.str "check_tables" 943), (.str "check_tables" 944), (.str "/claim/cut.py" 945), (.int 418 0), (.int 2 0), (.int 0 0), (.int 0 0), (.int 3 0), (.ref 564), (.bool true), (.int 181 0), (.ref 565), .none, .none, .none, (.ref 566), (.int 946 0), (.int 418 0), (.str "/claim/cut.py" 947)]), #[]⟩
noncomputable def a582 (P : Params) : Obj := ⟨(.type "function"), none, (.func ⟨"check_tables", "check_tables", fnA (st 67), .stmts (fnB (st 67)), fnS (st 67), 3, [], .none, .none, .none, (.str "joinedhand.checker" 747), none, (.ref 567), .none, 0⟩), #[]⟩
noncomputable def a583 (P : Params) : Obj := ⟨(.type "dict"), none, (.dict #[en P "__name__" 165 (.str "law_pb0201_01" 955), en P "__doc__" 166 .none, en P "__package__" 167 .none, en P "__loader__" 168 (.builtin "__main__.__loader__#opaque"), en P "__spec__" 169 .none, en P "__annotations__" 170 (.ref 6), en P "__builtins__" 171 (.ref 4), en P "__file__" 173 (.str "/claim/cut.py" 172), en P "__cached__" 174 .none, en P "_wall" 193 (.ref 21), en P "ShapeError" 237 (.ref 48), en P "TableFault" 253 (.ref 61), en P "FontFault" 269 (.ref 73), en P "USE_SET" 271 (.int 16 270), en P "check_room" 282 (.ref 82), en P "number_at" 293 (.ref 89), en P "u32_at" 301 (.ref 96), en P "OctetsIn" 405 (.ref 180), en P "number_octets" 411 (.ref 189), en P "OctetsOut" 513 (.ref 272), en P "checksum" 523 (.ref 283), en P "PLAIN" 527 (.int 65536 526), en P "OTTO" 529 (.int 1330926671 528), en P "APPLE" 531 (.int 1953658213 530), en P "VERSIONS" 532 (.ref 284), en P "HEADER_SIZE" 534 (.int 12 533), en P "RECORD_SIZE" 536 (.int 16 535), en P "MAGIC_SUM" 538 (.int 2981146554 537), en P "ADJUSTMENT" 540 (.int 8 539), en P "MOST_TABLES" 542 (.int 4095 541), en P "Record" 586 (.ref 308), en P "directory_size" 593 (.ref 319), en P "read_record" 605 (.ref 326), en P "need_in_order" 615 (.ref 333), en P "need_apart" 621 (.ref 338), en P "read_records" 627 (.ref 343), en P "tables_of" 633 (.ref 348), en P "read_directory" 642 (.ref 355), en P "has_adjustment" 650 (.ref 362), en P "unadjusted" 658 (.ref 369), en P "table_sum" 666 (.ref 376), en P "check_sums" 672 (.ref 381), en P "search_numbers" 681 (.ref 388), en P "to_fours" 688 (.ref 395), en P "need_tables" 697 (.ref 402), en P "directory_octets" 707 (.ref 409), en P "with_adjustment" 716 (.ref 416), en P "write_sfnt" 731 (.ref 423), en P "lookups_of" 744 (.ref 430), en P "MOST_DEPTH" 746 (.int 6 745), en P "NEEDED" 754 (.ref 431), en P "HEADS" 758 (.ref 432), en P "MOST_GLYPHS" 760 (.int 65536 759), en P "Finding" 800 (.ref 456), en P "findings_of" 806 (.ref 465), en P "substitute_glyphs" 820 (.ref 472), en P "context_glyphs" 832 (.ref 479), en P "pair_glyphs" 842 (.ref 486), en P "table_glyphs" 851 (.ref 493), en P "layout_glyphs" 861 (.ref 500), en P "charmap_glyphs" 867 (.ref 505), en P "gdef_glyphs" 876 (.ref 512), en P "next_lookups" 885 (.ref 519), en P "reached" 891 (.ref 524), en P "depths" 897 (.ref 529), en P "on_rings" 903 (.ref 534), en P "is_behind" 913 (.ref 541), en P "langsys_of" 919 (.ref 546), en P "number_findings" 925 (.ref 551), en P "glyph_findings" 931 (.ref 556), en P "tried" 942 (.ref 563), en P "check_tables" 948 (.ref 568), en P "check_file" 954 (.ref 573), en P "_law_draw" 966 (.ref 580), en P "_law_source" 972 (.ref 585), en P "law" 978 (.ref 590)] 76), #[]⟩
noncomputable def a584 (P : Params) : Obj := ⟨.none, none, (.fields #[(.int 1 0), (.int 0 0), (.ref 20), (.int 5 0), (.int 0 0), (.ref 28), (.int 14 0), (.int 0 0), (.ref 57), (.int 16 0), (.int 0 0), (.ref 69), (.int 20 0), (.int 0 0), (.ref 81), (.int 23 0), (.int 0 0), (.ref 88), (.int 29 0), (.int 0 0), (.ref 95), (.int 31 0), (.int 0 0), (.ref 102), (.int 72 0), (.int 0 0), (.ref 188), (.int 76 0), (.int 0 0), (.ref 195), (.int 112 0), (.int 0 0), (.ref 282), (.int 128 0), (.int 0 0), (.ref 290), (.int 139 0), (.int 0 0), (.ref 318), (.int 141 0), (.int 0 0), (.ref 325), (.int 147 0), (.int 0 0), (.ref 332), (.int 154 0), (.int 0 0), (.ref 337), (.int 161 0), (.int 0 0), (.ref 342), (.int 175 0), (.int 0 0), (.ref 347), (.int 177 0), (.int 0 0), (.ref 354), (.int 180 0), (.int 0 0), (.ref 361), (.int 182 0), (.int 0 0), (.ref 368), (.int 186 0), (.int 0 0), (.ref 375), (.int 188 0), (.int 0 0), (.ref 380), (.int 191 0), (.int 0 0), (.ref 387), (.int 197 0), (.int 0 0), (.ref 394), (.int 199 0), (.int 0 0), (.ref 401), (.int 207 0), (.int 0 0), (.ref 408), (.int 218 0), (.int 0 0), (.ref 415), (.int 222 0), (.int 0 0), (.ref 422), (.int 236 0), (.int 0 0), (.ref 429), (.int 247 0), (.int 0 0), (.ref 438), (.int 256 0), (.int 0 0), (.ref 464), (.int 258 0), (.int 0 0), (.ref 471), (.int 276 0), (.int 0 0), (.ref 478), (.int 292 0), (.int 0 0), (.ref 485), (.int 299 0), (.int 0 0), (.ref 492), (.int 317 0), (.int 0 0), (.ref 499), (.int 323 0), (.int 0 0), (.ref 504), (.int 328 0), (.int 0 0), (.ref 511), (.int 333 0), (.int 0 0), (.ref 518), (.int 339 0), (.int 0 0), (.ref 523), (.int 348 0), (.int 0 0), (.ref 528), (.int 368 0), (.int 0 0), (.ref 533), (.int 371 0), (.int 0 0), (.ref 540), (.int 377 0), (.int 0 0), (.ref 545), (.int 385 0), (.int 0 0), (.ref 550), (.int 408 0), (.int 0 0), (.ref 555), (.int 410 0), (.int 0 0), (.ref 562), (.int 418 0), (.int 0 0), (.ref 567), (.int 441 0), (.int 0 0), (.ref 572), (.int 448 0), (.int 0 0), (.ref 579), (.int 453 0), (.int 0 0), (.ref 584), (.int 456 0), (.int 0 0), (.ref 589)]), #[]⟩
noncomputable def a585 (P : Params) : Obj := ⟨(.type "tuple"), none, (.seq #[] 0), #[]⟩
noncomputable def a586 (P : Params) : Obj := ⟨.none, none, (.fields #[]), #[]⟩
noncomputable def a587 (P : Params) : Obj := ⟨.none, none, (.func ⟨"check_file", "check_file", fnA (st 68), .stmts (fnB (st 68)), fnS (st 68), 0, [], .none, .none, .none, .none, none, .none, .none, 0⟩), #[]⟩
noncomputable def a588 (P : Params) : Obj := ⟨(.type "code"), none, (.fields #[(.str "check_file" 949), (.str "check_file" 950), (.str "/claim/cut.py" 951), (.int 441 0), (.int 2 0), (.int 0 0), (.int 0 0), (.int 3 0), (.ref 569), (.bool true), (.int 181 0), (.ref 570), .none, .none, .none, (.ref 571), (.int 952 0), (.int 441 0), (.str "/claim/cut.py" 953)]), #[]⟩
noncomputable def a589 (P : Params) : Obj := ⟨(.type "function"), none, (.func ⟨"check_file", "check_file", fnA (st 68), .stmts (fnB (st 68)), fnS (st 68), 3, [], .none, .none, .none, (.str "joinedhand.checker" 747), none, (.ref 572), .none, 0⟩), #[]⟩
noncomputable def a590 (P : Params) : Obj := ⟨(.type "tuple"), none, (.seq #[] 0), #[]⟩
noncomputable def a591 (P : Params) : Obj := ⟨.none, none, (.fields #[]), #[]⟩
noncomputable def a592 (P : Params) : Obj := ⟨(.type "tuple"), none, (.seq #[(.str "source" 960), (.str "limit" 961), (.str "cells" 962), (.str "at" 963)] 0), #[]⟩
noncomputable def a593 (P : Params) : Obj := ⟨(.type "tuple"), none, (.seq #[] 0), #[]⟩
noncomputable def a594 (P : Params) : Obj := ⟨.none, none, (.func ⟨"_law_draw", "_law_draw", fnA (st 70), .stmts (fnB (st 70)), fnS (st 70), 0, [], .none, .none, .none, .none, none, .none, .none, 0⟩), #[]⟩
noncomputable def a595 (P : Params) : Obj := ⟨(.type "code"), none, (.fields #[(.str "_law_draw" 957), (.str "_law_draw" 958), (.str "/claim/cut.py" 959), (.int 448 0), (.int 2 0), (.int 0 0), (.int 0 0), (.int 3 0), (.ref 574), (.bool true), (.int 181 0), (.ref 575), .none, (.ref 576), (.ref 577), (.ref 578), (.int 964 0), (.int 448 0), (.str "/claim/cut.py" 965)]), #[]⟩
noncomputable def a596 (P : Params) : Obj := ⟨(.type "function"), none, (.func ⟨"_law_draw", "_law_draw", fnA (st 70), .stmts (fnB (st 70)), fnS (st 70), 3, [], .none, .none, .none, (.str "law_pb0201_01" 955), none, (.ref 579), .none, 0⟩), #[]⟩
noncomputable def a597 (P : Params) : Obj := ⟨(.type "tuple"), none, (.seq #[] 0), #[]⟩
noncomputable def a598 (P : Params) : Obj := ⟨.none, none, (.fields #[]), #[]⟩
noncomputable def a599 (P : Params) : Obj := ⟨.none, none, (.func ⟨"_law_source", "_law_source", fnA (st 71), .stmts (fnB (st 71)), fnS (st 71), 0, [], .none, .none, .none, .none, none, .none, .none, 0⟩), #[]⟩
noncomputable def a600 (P : Params) : Obj := ⟨(.type "code"), none, (.fields #[(.str "_law_source" 967), (.str "_law_source" 968), (.str "/claim/cut.py" 969), (.int 453 0), (.int 1 0), (.int 0 0), (.int 0 0), (.int 3 0), (.ref 581), (.bool true), (.int 181 0), (.ref 582), .none, .none, .none, (.ref 583), (.int 970 0), (.int 453 0), (.str "/claim/cut.py" 971)]), #[]⟩
noncomputable def a601 (P : Params) : Obj := ⟨(.type "function"), none, (.func ⟨"_law_source", "_law_source", fnA (st 71), .stmts (fnB (st 71)), fnS (st 71), 3, [], .none, .none, .none, (.str "law_pb0201_01" 955), none, (.ref 584), .none, 0⟩), #[]⟩
noncomputable def a602 (P : Params) : Obj := ⟨(.type "tuple"), none, (.seq #[] 0), #[]⟩
noncomputable def a603 (P : Params) : Obj := ⟨.none, none, (.fields #[]), #[]⟩
noncomputable def a604 (P : Params) : Obj := ⟨.none, none, (.func ⟨"law", "law", fnA (st 72), .stmts (fnB (st 72)), fnS (st 72), 0, [], .none, .none, .none, .none, none, .none, .none, 0⟩), #[]⟩
noncomputable def a605 (P : Params) : Obj := ⟨(.type "code"), none, (.fields #[(.str "law" 973), (.str "law" 974), (.str "/claim/cut.py" 975), (.int 456 0), (.int 1 0), (.int 0 0), (.int 0 0), (.int 3 0), (.ref 586), (.bool true), (.int 181 0), (.ref 587), .none, .none, .none, (.ref 588), (.int 976 0), (.int 456 0), (.str "/claim/cut.py" 977)]), #[]⟩
noncomputable def a606 (P : Params) : Obj := ⟨(.type "function"), none, (.func ⟨"law", "law", fnA (st 72), .stmts (fnB (st 72)), fnS (st 72), 3, [], .none, .none, .none, (.str "law_pb0201_01" 955), none, (.ref 589), .none, 0⟩), #[]⟩
noncomputable abbrev m0 : Nat := 11
noncomputable abbrev ann : Option Value := some (.ref 6)
noncomputable abbrev qE : Pos := ⟨0, 0, 0, 0⟩
noncomputable def env : Env := { scope := pw.main.scope, locals := mainNs, globals := mainNs, cells := [], code := .ref 13, frame := some 14 }
noncomputable def cE : Code := .body (behindTheImports pw) env
theorem teSegRunT : @segRunT = @PySem.W.Fast.tw10110043849684766642 := PySem.W.Fast.te10110043849684766642
theorem teTree : treeTable = PySem.W.Fast.tw14364793385576792824 := PySem.W.Fast.te14364793385576792824
theorem teTopGo : @topGo = @PySem.W.Fast.tw15667345088766844465 := PySem.W.Fast.te15667345088766844465
theorem teSegRun : @segRun = @PySem.W.Fast.tw14374325043358763698 := PySem.W.Fast.te14374325043358763698
theorem teTopRun : @topRun = @PySem.W.Fast.tw14082659384304107361 := PySem.W.Fast.te14082659384304107361
theorem teDenote : @denote = @PySem.W.Fast.tw11892475500146522536 := PySem.W.Fast.te11892475500146522536
noncomputable def ha (P : Params) : Heap := ⟨⟨[boot_o_0 P, boot_o_1 P, boot_o_2 P, boot_o_3 P, boot_o_4 P, boot_o_5 P, boot_o_6 P, boot_o_7 P, boot_o_8 P, boot_o_9 P, boot_o_10 P, a0 P, a1 P, a2 P, a3 P]⟩, { }⟩
noncomputable def has (w : World) (os : OsState) : Shared := ⟨ha w.params, ⟨[]⟩, { }, 187, os⟩
noncomputable def q0 (P : Params) : List Obj := [boot_o_4 P, boot_o_5 P, boot_o_6 P, boot_o_7 P, boot_o_8 P, boot_o_9 P, boot_o_10 P, a0 P]
noncomputable def q1 (P : Params) : List Obj := [a2 P, a3 P, a7 P, a8 P, a9 P, a10 P, a11 P, a12 P, a13 P, a14 P, a15 P, a16 P, a17 P, a18 P, a19 P, a20 P, a21 P, a22 P, a23 P, a24 P, a25 P, a26 P, a27 P, a28 P, a29 P, a30 P, a31 P, a32 P, a33 P, a34 P, a35 P, a36 P, a37 P, a38 P, a39 P]
noncomputable def p1 (P : Params) : List Obj := [a41 P, a42 P, a43 P]
noncomputable def p2 (P : Params) : List Obj := [a47 P, a48 P, a49 P, a50 P, a51 P, a52 P, a53 P, a54 P, a55 P, a56 P, a57 P, a58 P]
noncomputable def p3 (P : Params) : List Obj := [a62 P, a63 P, a64 P, a65 P, a66 P, a67 P, a68 P, a69 P, a70 P, a71 P, a72 P, a73 P, a74 P, a75 P, a76 P, a77 P, a78 P, a79 P, a80 P, a81 P, a82 P, a83 P, a84 P, a85 P, a86 P, a87 P, a88 P, a89 P, a90 P, a91 P, a92 P, a93 P, a94 P]
noncomputable def p4 (P : Params) : List Obj := [a97 P, a98 P, a99 P, a100 P, a101 P, a102 P, a103 P, a104 P, a105 P, a106 P, a107 P, a108 P, a109 P, a110 P, a111 P, a112 P, a113 P, a114 P, a115 P, a116 P, a117 P, a118 P, a119 P, a120 P, a121 P, a122 P, a123 P, a124 P, a125 P, a126 P, a127 P, a128 P, a129 P, a130 P, a131 P, a132 P, a133 P, a134 P, a135 P, a136 P, a137 P, a138 P, a139 P, a140 P, a141 P, a142 P, a143 P, a144 P, a145 P, a146 P, a147 P, a148 P, a149 P, a150 P, a151 P, a152 P, a153 P, a154 P, a155 P, a156 P, a157 P, a158 P, a159 P, a160 P, a161 P, a162 P, a163 P, a164 P, a165 P, a166 P, a167 P, a168 P, a169 P, a170 P, a171 P, a172 P, a173 P, a174 P, a175 P, a176 P, a177 P, a178 P, a179 P, a180 P, a181 P, a182 P, a183 P, a184 P]
noncomputable def p5 (P : Params) : List Obj := [a187 P, a188 P, a189 P, a190 P, a191 P]
noncomputable def p6 (P : Params) : List Obj := [a194 P, a195 P, a196 P, a197 P, a198 P, a199 P, a200 P, a201 P, a202 P, a203 P, a204 P, a205 P, a206 P, a207 P, a208 P, a209 P, a210 P, a211 P, a212 P, a213 P, a214 P, a215 P, a216 P, a217 P, a218 P, a219 P, a220 P, a221 P, a222 P, a223 P, a224 P, a225 P, a226 P, a227 P, a228 P, a229 P, a230 P, a231 P, a232 P, a233 P, a234 P, a235 P, a236 P, a237 P, a238 P, a239 P, a240 P, a241 P, a242 P, a243 P, a244 P, a245 P, a246 P, a247 P, a248 P, a249 P, a250 P, a251 P, a252 P, a253 P, a254 P, a255 P, a256 P, a257 P, a258 P, a259 P, a260 P, a261 P, a262 P, a263 P, a264 P, a265 P, a266 P, a267 P, a268 P, a269 P, a270 P, a271 P, a272 P, a273 P, a274 P, a275 P, a276 P, a277 P, a278 P, a279 P, a280 P]
noncomputable def p7 (P : Params) : List Obj := [a283 P, a284 P, a285 P, a286 P, a287 P, a288 P, a289 P, a290 P, a291 P, a292 P, a293 P, a294 P, a295 P, a296 P, a297 P, a298 P, a299 P, a300 P, a301 P, a302 P, a303 P, a304 P, a305 P, a306 P, a307 P, a308 P, a309 P, a310 P, a311 P, a312 P, a313 P, a314 P, a315 P, a316 P, a317 P, a318 P]
noncomputable def p8 (P : Params) : List Obj := [a321 P, a322 P, a323 P, a324 P, a325 P, a326 P, a327 P, a328 P, a329 P, a330 P, a331 P, a332 P, a333 P, a334 P, a335 P, a336 P, a337 P, a338 P, a339 P, a340 P, a341 P, a342 P, a343 P, a344 P, a345 P, a346 P, a347 P, a348 P, a349 P, a350 P, a351 P, a352 P, a353 P, a354 P, a355 P, a356 P, a357 P, a358 P, a359 P, a360 P, a361 P, a362 P, a363 P, a364 P, a365 P, a366 P, a367 P, a368 P, a369 P, a370 P, a371 P, a372 P, a373 P, a374 P, a375 P, a376 P, a377 P, a378 P, a379 P, a380 P, a381 P, a382 P, a383 P, a384 P, a385 P, a386 P, a387 P, a388 P, a389 P, a390 P, a391 P, a392 P, a393 P, a394 P, a395 P, a396 P, a397 P, a398 P, a399 P, a400 P, a401 P, a402 P, a403 P]
noncomputable def p9 (P : Params) : List Obj := [a406 P, a407 P, a408 P, a409 P, a410 P, a411 P, a412 P, a413 P, a414 P, a415 P, a416 P, a417 P, a418 P, a419 P, a420 P, a421 P, a422 P, a423 P, a424 P, a425 P, a426 P, a427 P, a428 P, a429 P, a430 P, a431 P, a432 P, a433 P, a434 P, a435 P, a436 P, a437 P, a438 P, a439 P, a440 P, a441 P, a442 P]
noncomputable def p10 (P : Params) : List Obj := [a445 P, a446 P, a447 P, a448 P, a449 P, a450 P, a451 P, a452 P, a453 P, a454 P, a455 P, a456 P, a457 P, a458 P, a459 P, a460 P, a461 P, a462 P, a463 P, a464 P, a465 P, a466 P, a467 P, a468 P, a469 P, a470 P, a471 P, a472 P, a473 P, a474 P, a475 P, a476 P, a477 P, a478 P, a479 P, a480 P, a481 P, a482 P, a483 P, a484 P, a485 P, a486 P, a487 P, a488 P, a489 P, a490 P, a491 P, a492 P, a493 P, a494 P, a495 P, a496 P, a497 P, a498 P]
noncomputable def p11 (P : Params) : List Obj := [a501 P, a502 P, a503 P, a504 P, a505 P, a506 P, a507 P, a508 P, a509 P, a510 P, a511 P, a512 P, a513 P, a514 P, a515 P, a516 P, a517 P, a518 P, a519 P, a520 P, a521 P, a522 P, a523 P, a524 P, a525 P, a526 P, a527 P, a528 P, a529 P, a530 P, a531 P, a532 P, a533 P, a534 P, a535 P, a536 P, a537 P, a538 P, a539 P, a540 P, a541 P, a542 P, a543 P, a544 P, a545 P, a546 P, a547 P, a548 P, a549 P, a550 P, a551 P, a552 P, a553 P, a554 P, a555 P, a556 P, a557 P, a558 P, a559 P, a560 P, a561 P, a562 P, a563 P, a564 P, a565 P, a566 P, a567 P, a568 P, a569 P, a570 P, a571 P, a572 P, a573 P, a574 P, a575 P, a576 P, a577 P, a578 P, a579 P, a580 P, a581 P, a582 P]
noncomputable def t0l (P : Params) : List Obj := [boot_o_0 P, boot_o_1 P, boot_o_2 P, boot_o_3 P, boot_o_4 P, boot_o_5 P, boot_o_6 P, boot_o_7 P, boot_o_8 P, boot_o_9 P, boot_o_10 P, a0 P, a1 P, a2 P, a3 P]
noncomputable def t0 (w : World) (os : OsState) : SharedT := ⟨bt 12 (t0l w.params), 15, { }, ⟨[]⟩, { }, 187, os⟩
noncomputable def t1l (P : Params) : List Obj := boot_o_0 P :: boot_o_1 P :: a4 P :: a5 P :: (q0 P ++ a6 P :: (q1 P ++ a40 P :: (p1 P)))
noncomputable def t1 (w : World) (os : OsState) : SharedT := ⟨bt 12 (t1l w.params), 52, { }, ⟨[]⟩, { }, 238, os⟩
noncomputable def sts0 : List Stmt := ((behindTheImports pw).drop 0).take 3
noncomputable def t2l (P : Params) : List Obj := boot_o_0 P :: boot_o_1 P :: a4 P :: a44 P :: (q0 P ++ a45 P :: (q1 P ++ a46 P :: (p1 P ++ p2 P)))
noncomputable def t2 (w : World) (os : OsState) : SharedT := ⟨bt 12 (t2l w.params), 64, { }, ⟨[]⟩, { }, 254, os⟩
noncomputable def sts1 : List Stmt := ((behindTheImports pw).drop 3).take 1
noncomputable def t3l (P : Params) : List Obj := boot_o_0 P :: boot_o_1 P :: a4 P :: a59 P :: (q0 P ++ a60 P :: (q1 P ++ a61 P :: (p1 P ++ (p2 P ++ p3 P))))
noncomputable def t3 (w : World) (os : OsState) : SharedT := ⟨bt 12 (t3l w.params), 97, { }, ⟨[]⟩, { }, 302, os⟩
noncomputable def sts2 : List Stmt := ((behindTheImports pw).drop 4).take 6
noncomputable def t4l (P : Params) : List Obj := boot_o_0 P :: boot_o_1 P :: a4 P :: a95 P :: (q0 P ++ a96 P :: (q1 P ++ a61 P :: (p1 P ++ (p2 P ++ (p3 P ++ p4 P)))))
noncomputable def t4 (w : World) (os : OsState) : SharedT := ⟨bt 12 (t4l w.params), 185, { }, ⟨[]⟩, { }, 406, os⟩
noncomputable def sts3 : List Stmt := ((behindTheImports pw).drop 10).take 1
noncomputable def t5l (P : Params) : List Obj := boot_o_0 P :: boot_o_1 P :: a4 P :: a185 P :: (q0 P ++ a186 P :: (q1 P ++ a61 P :: (p1 P ++ (p2 P ++ (p3 P ++ (p4 P ++ p5 P))))))
noncomputable def t5 (w : World) (os : OsState) : SharedT := ⟨bt 12 (t5l w.params), 190, { }, ⟨[]⟩, { }, 412, os⟩
noncomputable def sts4 : List Stmt := ((behindTheImports pw).drop 11).take 1
noncomputable def t6l (P : Params) : List Obj := boot_o_0 P :: boot_o_1 P :: a4 P :: a192 P :: (q0 P ++ a193 P :: (q1 P ++ a61 P :: (p1 P ++ (p2 P ++ (p3 P ++ (p4 P ++ (p5 P ++ p6 P)))))))
noncomputable def t6 (w : World) (os : OsState) : SharedT := ⟨bt 12 (t6l w.params), 277, { }, ⟨[]⟩, { }, 514, os⟩
noncomputable def sts5 : List Stmt := ((behindTheImports pw).drop 12).take 1
noncomputable def t7l (P : Params) : List Obj := boot_o_0 P :: boot_o_1 P :: a4 P :: a281 P :: (q0 P ++ a282 P :: (q1 P ++ a61 P :: (p1 P ++ (p2 P ++ (p3 P ++ (p4 P ++ (p5 P ++ (p6 P ++ p7 P))))))))
noncomputable def t7 (w : World) (os : OsState) : SharedT := ⟨bt 12 (t7l w.params), 313, { }, ⟨[]⟩, { }, 587, os⟩
noncomputable def sts6 : List Stmt := ((behindTheImports pw).drop 13).take 12
noncomputable def t8l (P : Params) : List Obj := boot_o_0 P :: boot_o_1 P :: a4 P :: a319 P :: (q0 P ++ a320 P :: (q1 P ++ a61 P :: (p1 P ++ (p2 P ++ (p3 P ++ (p4 P ++ (p5 P ++ (p6 P ++ (p7 P ++ p8 P)))))))))
noncomputable def t8 (w : World) (os : OsState) : SharedT := ⟨bt 12 (t8l w.params), 396, { }, ⟨[]⟩, { }, 689, os⟩
noncomputable def sts7 : List Stmt := ((behindTheImports pw).drop 25).take 13
noncomputable def t9l (P : Params) : List Obj := boot_o_0 P :: boot_o_1 P :: a4 P :: a404 P :: (q0 P ++ a405 P :: (q1 P ++ a61 P :: (p1 P ++ (p2 P ++ (p3 P ++ (p4 P ++ (p5 P ++ (p6 P ++ (p7 P ++ (p8 P ++ p9 P))))))))))
noncomputable def t9 (w : World) (os : OsState) : SharedT := ⟨bt 12 (t9l w.params), 433, { }, ⟨[]⟩, { }, 761, os⟩
noncomputable def sts8 : List Stmt := ((behindTheImports pw).drop 38).take 11
noncomputable def t10l (P : Params) : List Obj := boot_o_0 P :: boot_o_1 P :: a4 P :: a443 P :: (q0 P ++ a444 P :: (q1 P ++ a61 P :: (p1 P ++ (p2 P ++ (p3 P ++ (p4 P ++ (p5 P ++ (p6 P ++ (p7 P ++ (p8 P ++ (p9 P ++ p10 P)))))))))))
noncomputable def t10 (w : World) (os : OsState) : SharedT := ⟨bt 12 (t10l w.params), 487, { }, ⟨[]⟩, { }, 843, os⟩
noncomputable def sts9 : List Stmt := ((behindTheImports pw).drop 49).take 5
noncomputable def t11l (P : Params) : List Obj := boot_o_0 P :: boot_o_1 P :: a4 P :: a499 P :: (q0 P ++ a500 P :: (q1 P ++ a61 P :: (p1 P ++ (p2 P ++ (p3 P ++ (p4 P ++ (p5 P ++ (p6 P ++ (p7 P ++ (p8 P ++ (p9 P ++ (p10 P ++ p11 P))))))))))))
noncomputable def t11 (w : World) (os : OsState) : SharedT := ⟨bt 12 (t11l w.params), 569, { }, ⟨[]⟩, { }, 949, os⟩
noncomputable def sts10 : List Stmt := ((behindTheImports pw).drop 54).take 14
noncomputable def t12l (P : Params) : List Obj := [boot_o_0 P, boot_o_1 P, a4 P, a583 P, boot_o_4 P, boot_o_5 P, boot_o_6 P, boot_o_7 P, boot_o_8 P, boot_o_9 P, boot_o_10 P, a0 P, a584 P, a2 P, a3 P, a7 P, a8 P, a9 P, a10 P, a11 P, a12 P, a13 P, a14 P, a15 P, a16 P, a17 P, a18 P, a19 P, a20 P, a21 P, a22 P, a23 P, a24 P, a25 P, a26 P, a27 P, a28 P, a29 P, a30 P, a31 P, a32 P, a33 P, a34 P, a35 P, a36 P, a37 P, a38 P, a39 P, a61 P, a41 P, a42 P, a43 P, a47 P, a48 P, a49 P, a50 P, a51 P, a52 P, a53 P, a54 P, a55 P, a56 P, a57 P, a58 P, a62 P, a63 P, a64 P, a65 P, a66 P, a67 P, a68 P, a69 P, a70 P, a71 P, a72 P, a73 P, a74 P, a75 P, a76 P, a77 P, a78 P, a79 P, a80 P, a81 P, a82 P, a83 P, a84 P, a85 P, a86 P, a87 P, a88 P, a89 P, a90 P, a91 P, a92 P, a93 P, a94 P, a97 P, a98 P, a99 P, a100 P, a101 P, a102 P, a103 P, a104 P, a105 P, a106 P, a107 P, a108 P, a109 P, a110 P, a111 P, a112 P, a113 P, a114 P, a115 P, a116 P, a117 P, a118 P, a119 P, a120 P, a121 P, a122 P, a123 P, a124 P, a125 P, a126 P, a127 P, a128 P, a129 P, a130 P, a131 P, a132 P, a133 P, a134 P, a135 P, a136 P, a137 P, a138 P, a139 P, a140 P, a141 P, a142 P, a143 P, a144 P, a145 P, a146 P, a147 P, a148 P, a149 P, a150 P, a151 P, a152 P, a153 P, a154 P, a155 P, a156 P, a157 P, a158 P, a159 P, a160 P, a161 P, a162 P, a163 P, a164 P, a165 P, a166 P, a167 P, a168 P, a169 P, a170 P, a171 P, a172 P, a173 P, a174 P, a175 P, a176 P, a177 P, a178 P, a179 P, a180 P, a181 P, a182 P, a183 P, a184 P, a187 P, a188 P, a189 P, a190 P, a191 P, a194 P, a195 P, a196 P, a197 P, a198 P, a199 P, a200 P, a201 P, a202 P, a203 P, a204 P, a205 P, a206 P, a207 P, a208 P, a209 P, a210 P, a211 P, a212 P, a213 P, a214 P, a215 P, a216 P, a217 P, a218 P, a219 P, a220 P, a221 P, a222 P, a223 P, a224 P, a225 P, a226 P, a227 P, a228 P, a229 P, a230 P, a231 P, a232 P, a233 P, a234 P, a235 P, a236 P, a237 P, a238 P, a239 P, a240 P, a241 P, a242 P, a243 P, a244 P, a245 P, a246 P, a247 P, a248 P, a249 P, a250 P, a251 P, a252 P, a253 P, a254 P, a255 P, a256 P, a257 P, a258 P, a259 P, a260 P, a261 P, a262 P, a263 P, a264 P, a265 P, a266 P, a267 P, a268 P, a269 P, a270 P, a271 P, a272 P, a273 P, a274 P, a275 P, a276 P, a277 P, a278 P, a279 P, a280 P, a283 P, a284 P, a285 P, a286 P, a287 P, a288 P, a289 P, a290 P, a291 P, a292 P, a293 P, a294 P, a295 P, a296 P, a297 P, a298 P, a299 P, a300 P, a301 P, a302 P, a303 P, a304 P, a305 P, a306 P, a307 P, a308 P, a309 P, a310 P, a311 P, a312 P, a313 P, a314 P, a315 P, a316 P, a317 P, a318 P, a321 P, a322 P, a323 P, a324 P, a325 P, a326 P, a327 P, a328 P, a329 P, a330 P, a331 P, a332 P, a333 P, a334 P, a335 P, a336 P, a337 P, a338 P, a339 P, a340 P, a341 P, a342 P, a343 P, a344 P, a345 P, a346 P, a347 P, a348 P, a349 P, a350 P, a351 P, a352 P, a353 P, a354 P, a355 P, a356 P, a357 P, a358 P, a359 P, a360 P, a361 P, a362 P, a363 P, a364 P, a365 P, a366 P, a367 P, a368 P, a369 P, a370 P, a371 P, a372 P, a373 P, a374 P, a375 P, a376 P, a377 P, a378 P, a379 P, a380 P, a381 P, a382 P, a383 P, a384 P, a385 P, a386 P, a387 P, a388 P, a389 P, a390 P, a391 P, a392 P, a393 P, a394 P, a395 P, a396 P, a397 P, a398 P, a399 P, a400 P, a401 P, a402 P, a403 P, a406 P, a407 P, a408 P, a409 P, a410 P, a411 P, a412 P, a413 P, a414 P, a415 P, a416 P, a417 P, a418 P, a419 P, a420 P, a421 P, a422 P, a423 P, a424 P, a425 P, a426 P, a427 P, a428 P, a429 P, a430 P, a431 P, a432 P, a433 P, a434 P, a435 P, a436 P, a437 P, a438 P, a439 P, a440 P, a441 P, a442 P, a445 P, a446 P, a447 P, a448 P, a449 P, a450 P, a451 P, a452 P, a453 P, a454 P, a455 P, a456 P, a457 P, a458 P, a459 P, a460 P, a461 P, a462 P, a463 P, a464 P, a465 P, a466 P, a467 P, a468 P, a469 P, a470 P, a471 P, a472 P, a473 P, a474 P, a475 P, a476 P, a477 P, a478 P, a479 P, a480 P, a481 P, a482 P, a483 P, a484 P, a485 P, a486 P, a487 P, a488 P, a489 P, a490 P, a491 P, a492 P, a493 P, a494 P, a495 P, a496 P, a497 P, a498 P, a501 P, a502 P, a503 P, a504 P, a505 P, a506 P, a507 P, a508 P, a509 P, a510 P, a511 P, a512 P, a513 P, a514 P, a515 P, a516 P, a517 P, a518 P, a519 P, a520 P, a521 P, a522 P, a523 P, a524 P, a525 P, a526 P, a527 P, a528 P, a529 P, a530 P, a531 P, a532 P, a533 P, a534 P, a535 P, a536 P, a537 P, a538 P, a539 P, a540 P, a541 P, a542 P, a543 P, a544 P, a545 P, a546 P, a547 P, a548 P, a549 P, a550 P, a551 P, a552 P, a553 P, a554 P, a555 P, a556 P, a557 P, a558 P, a559 P, a560 P, a561 P, a562 P, a563 P, a564 P, a565 P, a566 P, a567 P, a568 P, a569 P, a570 P, a571 P, a572 P, a573 P, a574 P, a575 P, a576 P, a577 P, a578 P, a579 P, a580 P, a581 P, a582 P, a585 P, a586 P, a587 P, a588 P, a589 P, a590 P, a591 P, a592 P, a593 P, a594 P, a595 P, a596 P, a597 P, a598 P, a599 P, a600 P, a601 P, a602 P, a603 P, a604 P, a605 P, a606 P]
noncomputable def t12 (w : World) (os : OsState) : SharedT := ⟨bt 12 (t12l w.params), 591, { }, ⟨[]⟩, { }, 979, os⟩
noncomputable def sts11 : List Stmt := ((behindTheImports pw).drop 68).take 5
noncomputable def hz (P : Params) : Heap := ⟨⟨t12l P⟩, { }⟩
noncomputable def hzs (w : World) (os : OsState) : Shared := ⟨hz w.params, ⟨[]⟩, { }, 979, os⟩
theorem pc0 (w : World) (os : OsState) : segRunT treeTable pw w m0 ann 1 323 (t0 w os) (piecesOf sts0 env cE ⟨0, 0, 0, 0⟩ [topFrame qE]) = some (.next, t1 w os, cE, ⟨5, 0, 13, 35⟩) := by
  rw [teSegRunT, teTree]; kernel_rfl
theorem pc1 (w : World) (os : OsState) : segRunT treeTable pw w m0 ann 1 214 (t1 w os) (piecesOf sts1 env cE ⟨5, 0, 13, 35⟩ [topFrame qE]) = some (.next, t2 w os, cE, ⟨14, 0, 15, 8⟩) := by
  rw [teSegRunT, teTree]; kernel_rfl
theorem pc2 (w : World) (os : OsState) : segRunT treeTable pw w m0 ann 1 326 (t2 w os) (piecesOf sts2 env cE ⟨14, 0, 15, 8⟩ [topFrame qE]) = some (.next, t3 w os, cE, ⟨29, 0, 30, 33⟩) := by
  rw [teSegRunT, teTree]; kernel_rfl
theorem pc3 (w : World) (os : OsState) : segRunT treeTable pw w m0 ann 1 535 (t3 w os) (piecesOf sts3 env cE ⟨29, 0, 30, 33⟩ [topFrame qE]) = some (.next, t4 w os, cE, ⟨31, 0, 71, 16⟩) := by
  rw [teSegRunT, teTree]; kernel_rfl
theorem pc4 (w : World) (os : OsState) : segRunT treeTable pw w m0 ann 1 27 (t4 w os) (piecesOf sts4 env cE ⟨31, 0, 71, 16⟩ [topFrame qE]) = some (.next, t5 w os, cE, ⟨72, 0, 75, 83⟩) := by
  rw [teSegRunT, teTree]; kernel_rfl
theorem pc5 (w : World) (os : OsState) : segRunT treeTable pw w m0 ann 1 532 (t5 w os) (piecesOf sts5 env cE ⟨72, 0, 75, 83⟩ [topFrame qE]) = some (.next, t6 w os, cE, ⟨76, 0, 111, 31⟩) := by
  rw [teSegRunT, teTree]; kernel_rfl
theorem pc6 (w : World) (os : OsState) : segRunT treeTable pw w m0 ann 1 391 (t6 w os) (piecesOf sts6 env cE ⟨76, 0, 111, 31⟩ [topFrame qE]) = some (.next, t7 w os, cE, ⟨128, 0, 138, 39⟩) := by
  rw [teSegRunT, teTree]; kernel_rfl
theorem pc7 (w : World) (os : OsState) : segRunT treeTable pw w m0 ann 1 381 (t7 w os) (piecesOf sts7 env cE ⟨128, 0, 138, 39⟩ [topFrame qE]) = some (.next, t8 w os, cE, ⟨197, 0, 198, 43⟩) := by
  rw [teSegRunT, teTree]; kernel_rfl
theorem pc8 (w : World) (os : OsState) : segRunT treeTable pw w m0 ann 1 229 (t8 w os) (piecesOf sts8 env cE ⟨197, 0, 198, 43⟩ [topFrame qE]) = some (.next, t9 w os, cE, ⟨246, 0, 246, 11⟩) := by
  rw [teSegRunT, teTree]; kernel_rfl
theorem pc9 (w : World) (os : OsState) : segRunT treeTable pw w m0 ann 1 386 (t9 w os) (piecesOf sts9 env cE ⟨246, 0, 246, 11⟩ [topFrame qE]) = some (.next, t10 w os, cE, ⟨292, 0, 298, 97⟩) := by
  rw [teSegRunT, teTree]; kernel_rfl
theorem pc10 (w : World) (os : OsState) : segRunT treeTable pw w m0 ann 1 399 (t10 w os) (piecesOf sts10 env cE ⟨292, 0, 298, 97⟩ [topFrame qE]) = some (.next, t11 w os, cE, ⟨418, 0, 440, 16⟩) := by
  rw [teSegRunT, teTree]; kernel_rfl
theorem pc11 (w : World) (os : OsState) : segRunT treeTable pw w m0 ann 1 120 (t11 w os) (piecesOf sts11 env cE ⟨418, 0, 440, 16⟩ [topFrame qE]) = some (.next, t12 w os, cE, ⟨456, 0, 498, 61⟩) := by
  rw [teSegRunT, teTree]; kernel_rfl
noncomputable def K (P : Params) : Frag := [(2, a4 P), (3, a583 P), (15, a7 P), (17, a9 P), (18, a10 P), (20, a12 P), (21, a13 P), (22, a14 P), (25, a17 P), (30, a22 P), (31, a23 P), (32, a24 P), (34, a26 P), (35, a27 P), (37, a29 P), (38, a30 P), (39, a31 P), (41, a33 P), (42, a34 P), (44, a36 P), (45, a37 P), (46, a38 P), (47, a39 P), (48, a61 P), (49, a41 P), (52, a47 P), (59, a54 P), (60, a55 P), (61, a56 P), (64, a62 P), (71, a69 P), (72, a70 P), (73, a71 P), (76, a74 P), (78, a76 P), (79, a77 P), (81, a79 P), (82, a80 P), (83, a81 P), (85, a83 P), (86, a84 P), (88, a86 P), (89, a87 P), (90, a88 P), (92, a90 P), (93, a91 P), (95, a93 P), (96, a94 P), (104, a104 P), (105, a105 P), (107, a107 P), (108, a108 P), (110, a110 P), (111, a111 P), (112, a112 P), (114, a114 P), (115, a115 P), (117, a117 P), (118, a118 P), (119, a119 P), (121, a121 P), (122, a122 P), (124, a124 P), (125, a125 P), (126, a126 P), (128, a128 P), (129, a129 P), (131, a131 P), (132, a132 P), (133, a133 P), (135, a135 P), (136, a136 P), (138, a138 P), (139, a139 P), (140, a140 P), (142, a142 P), (143, a143 P), (145, a145 P), (146, a146 P), (147, a147 P), (149, a149 P), (150, a150 P), (152, a152 P), (153, a153 P), (154, a154 P), (156, a156 P), (157, a157 P), (159, a159 P), (160, a160 P), (161, a161 P), (164, a164 P), (165, a165 P), (166, a166 P), (169, a169 P), (170, a170 P), (171, a171 P), (173, a173 P), (174, a174 P), (176, a176 P), (177, a177 P), (178, a178 P), (179, a179 P), (180, a180 P), (181, a181 P), (182, a182 P), (185, a187 P), (188, a190 P), (189, a191 P), (197, a201 P), (199, a203 P), (200, a204 P), (202, a206 P), (203, a207 P), (204, a208 P), (206, a210 P), (207, a211 P), (209, a213 P), (210, a214 P), (211, a215 P), (213, a217 P), (214, a218 P), (216, a220 P), (217, a221 P), (218, a222 P), (220, a224 P), (221, a225 P), (223, a227 P), (224, a228 P), (225, a229 P), (227, a231 P), (228, a232 P), (230, a234 P), (231, a235 P), (232, a236 P), (234, a238 P), (235, a239 P), (237, a241 P), (238, a242 P), (239, a243 P), (242, a246 P), (243, a247 P), (244, a248 P), (247, a251 P), (248, a252 P), (249, a253 P), (251, a255 P), (252, a256 P), (254, a258 P), (255, a259 P), (256, a260 P), (258, a262 P), (259, a263 P), (261, a265 P), (262, a266 P), (263, a267 P), (265, a269 P), (266, a270 P), (268, a272 P), (269, a273 P), (270, a274 P), (271, a275 P), (272, a276 P), (273, a277 P), (274, a278 P), (277, a283 P), (279, a285 P), (280, a286 P), (282, a288 P), (283, a289 P), (284, a290 P), (292, a298 P), (294, a300 P), (295, a301 P), (297, a303 P), (298, a304 P), (299, a305 P), (301, a307 P), (302, a308 P), (304, a310 P), (305, a311 P), (306, a312 P), (307, a313 P), (308, a314 P), (309, a315 P), (310, a316 P), (313, a321 P), (315, a323 P), (316, a324 P), (318, a326 P), (319, a327 P), (320, a328 P), (322, a330 P), (323, a331 P), (325, a333 P), (326, a334 P), (327, a335 P), (329, a337 P), (330, a338 P), (332, a340 P), (333, a341 P), (334, a342 P), (337, a345 P), (338, a346 P), (339, a347 P), (342, a350 P), (343, a351 P), (344, a352 P), (347, a355 P), (348, a356 P), (349, a357 P), (351, a359 P), (352, a360 P), (354, a362 P), (355, a363 P), (356, a364 P), (358, a366 P), (359, a367 P), (361, a369 P), (362, a370 P), (363, a371 P), (365, a373 P), (366, a374 P), (368, a376 P), (369, a377 P), (370, a378 P), (372, a380 P), (373, a381 P), (375, a383 P), (376, a384 P), (377, a385 P), (380, a388 P), (381, a389 P), (382, a390 P), (384, a392 P), (385, a393 P), (387, a395 P), (388, a396 P), (389, a397 P), (391, a399 P), (392, a400 P), (394, a402 P), (395, a403 P), (396, a406 P), (398, a408 P), (399, a409 P), (401, a411 P), (402, a412 P), (403, a413 P), (405, a415 P), (406, a416 P), (408, a418 P), (409, a419 P), (410, a420 P), (412, a422 P), (413, a423 P), (415, a425 P), (416, a426 P), (417, a427 P), (419, a429 P), (420, a430 P), (422, a432 P), (423, a433 P), (424, a434 P), (426, a436 P), (427, a437 P), (429, a439 P), (430, a440 P), (431, a441 P), (432, a442 P), (440, a452 P), (442, a454 P), (443, a455 P), (445, a457 P), (446, a458 P), (447, a459 P), (449, a461 P), (450, a462 P), (452, a464 P), (453, a465 P), (454, a466 P), (455, a467 P), (456, a468 P), (457, a469 P), (458, a470 P), (461, a473 P), (464, a476 P), (465, a477 P), (466, a478 P), (468, a480 P), (469, a481 P), (471, a483 P), (472, a484 P), (473, a485 P), (475, a487 P), (476, a488 P), (478, a490 P), (479, a491 P), (480, a492 P), (482, a494 P), (483, a495 P), (485, a497 P), (486, a498 P), (487, a501 P), (489, a503 P), (490, a504 P), (492, a506 P), (493, a507 P), (494, a508 P), (496, a510 P), (497, a511 P), (499, a513 P), (500, a514 P), (501, a515 P), (504, a518 P), (505, a519 P), (506, a520 P), (508, a522 P), (509, a523 P), (511, a525 P), (512, a526 P), (513, a527 P), (515, a529 P), (516, a530 P), (518, a532 P), (519, a533 P), (520, a534 P), (523, a537 P), (524, a538 P), (525, a539 P), (528, a542 P), (529, a543 P), (530, a544 P), (533, a547 P), (534, a548 P), (535, a549 P), (537, a551 P), (538, a552 P), (540, a554 P), (541, a555 P), (542, a556 P), (545, a559 P), (546, a560 P), (547, a561 P), (550, a564 P), (551, a565 P), (552, a566 P), (555, a569 P), (556, a570 P), (557, a571 P), (559, a573 P), (560, a574 P), (562, a576 P), (563, a577 P), (564, a578 P), (567, a581 P), (568, a582 P), (569, a585 P), (572, a588 P), (573, a589 P), (574, a590 P), (576, a592 P), (577, a593 P), (579, a595 P), (580, a596 P), (581, a597 P), (584, a600 P), (585, a601 P), (586, a602 P), (589, a605 P), (590, a606 P)]
noncomputable def kas : List Addr := [2, 3, 15, 17, 18, 20, 21, 22, 25, 30, 31, 32, 34, 35, 37, 38, 39, 41, 42, 44, 45, 46, 47, 48, 49, 52, 59, 60, 61, 64, 71, 72, 73, 76, 78, 79, 81, 82, 83, 85, 86, 88, 89, 90, 92, 93, 95, 96, 104, 105, 107, 108, 110, 111, 112, 114, 115, 117, 118, 119, 121, 122, 124, 125, 126, 128, 129, 131, 132, 133, 135, 136, 138, 139, 140, 142, 143, 145, 146, 147, 149, 150, 152, 153, 154, 156, 157, 159, 160, 161, 164, 165, 166, 169, 170, 171, 173, 174, 176, 177, 178, 179, 180, 181, 182, 185, 188, 189, 197, 199, 200, 202, 203, 204, 206, 207, 209, 210, 211, 213, 214, 216, 217, 218, 220, 221, 223, 224, 225, 227, 228, 230, 231, 232, 234, 235, 237, 238, 239, 242, 243, 244, 247, 248, 249, 251, 252, 254, 255, 256, 258, 259, 261, 262, 263, 265, 266, 268, 269, 270, 271, 272, 273, 274, 277, 279, 280, 282, 283, 284, 292, 294, 295, 297, 298, 299, 301, 302, 304, 305, 306, 307, 308, 309, 310, 313, 315, 316, 318, 319, 320, 322, 323, 325, 326, 327, 329, 330, 332, 333, 334, 337, 338, 339, 342, 343, 344, 347, 348, 349, 351, 352, 354, 355, 356, 358, 359, 361, 362, 363, 365, 366, 368, 369, 370, 372, 373, 375, 376, 377, 380, 381, 382, 384, 385, 387, 388, 389, 391, 392, 394, 395, 396, 398, 399, 401, 402, 403, 405, 406, 408, 409, 410, 412, 413, 415, 416, 417, 419, 420, 422, 423, 424, 426, 427, 429, 430, 431, 432, 440, 442, 443, 445, 446, 447, 449, 450, 452, 453, 454, 455, 456, 457, 458, 461, 464, 465, 466, 468, 469, 471, 472, 473, 475, 476, 478, 479, 480, 482, 483, 485, 486, 487, 489, 490, 492, 493, 494, 496, 497, 499, 500, 501, 504, 505, 506, 508, 509, 511, 512, 513, 515, 516, 518, 519, 520, 523, 524, 525, 528, 529, 530, 533, 534, 535, 537, 538, 540, 541, 542, 545, 546, 547, 550, 551, 552, 555, 556, 557, 559, 560, 562, 563, 564, 567, 568, 569, 572, 573, 574, 576, 577, 579, 580, 581, 584, 585, 586, 589, 590]
noncomputable def os0 (w : World) (os : OsState) : Shared := ⟨boot_heap w.params, Array.mk [], boot_drawn, boot_toks, os⟩
theorem hpre (w : World) (os : OsState) : topGo treeTable pw w m0 ann 12 (os0 w os) (topStub pw) = some (has w os, ⟨denote treeTable cE, cE, ⟨0, 0, 0, 0⟩, [topFrame qE]⟩) := by
  rw [teTopGo, teTree, teDenote]; kernel_rfl
theorem hblock (w : World) (os : OsState) : segRun treeTable pw w m0 ann 1 1 (has w os) (blockOf (behindTheImports pw) env cE ⟨0, 0, 0, 0⟩ [topFrame qE]) = some (.next, (t0 w os).abs, cE, ⟨0, 0, 0, 0⟩) := by
  rw [teSegRun, teTree]; kernel_rfl
theorem hfin (w : World) (os : OsState) : topRun treeTable pw w m0 ann 2 (t12 w os).abs ⟨doneF .next, cE, ⟨456, 0, 498, 61⟩, [topFrame qE]⟩ = some (hzs w os) := by
  rw [teTopRun, teTree]; kernel_rfl
theorem hsts : behindTheImports pw = sts0 ++ (sts1 ++ (sts2 ++ (sts3 ++ (sts4 ++ (sts5 ++ (sts6 ++ (sts7 ++ (sts8 ++ (sts9 ++ (sts10 ++ (sts11 ++ []))))))))))) := by kernel_rfl
theorem chain (w : World) (os : OsState) : topRun treeTable pw w m0 ann (323 + (214 + (326 + (535 + (27 + (532 + (391 + (381 + (229 + (386 + (399 + (120 + 2)))))))))))) (t0 w os).abs (restOf (sts0 ++ (sts1 ++ (sts2 ++ (sts3 ++ (sts4 ++ (sts5 ++ (sts6 ++ (sts7 ++ (sts8 ++ (sts9 ++ (sts10 ++ (sts11 ++ [])))))))))))) env cE ⟨0, 0, 0, 0⟩ [topFrame qE]) = some (hzs w os) :=
  piece_app (segRun_of (pc0 w os)) (piece_app (segRun_of (pc1 w os)) (piece_app (segRun_of (pc2 w os)) (piece_app (segRun_of (pc3 w os)) (piece_app (segRun_of (pc4 w os)) (piece_app (segRun_of (pc5 w os)) (piece_app (segRun_of (pc6 w os)) (piece_app (segRun_of (pc7 w os)) (piece_app (segRun_of (pc8 w os)) (piece_app (segRun_of (pc9 w os)) (piece_app (segRun_of (pc10 w os)) (piece_app (segRun_of (pc11 w os)) (piece_nil (hfin w os)))))))))))))
theorem run (w : World) (os : OsState) : topRun treeTable pw w m0 ann (12 + (1 + (323 + (214 + (326 + (535 + (27 + (532 + (391 + (381 + (229 + (386 + (399 + (120 + 2)))))))))))))) (os0 w os) (topStub pw) = some (hzs w os) :=
  go_top (hpre w os) (piece_block (hblock w os) (by rw [hsts]; exact chain w os))
noncomputable def qv : Program := { pw with main := { pw.main with body := [st 72] } }
noncomputable def loose : List Str := (["_wall", "ShapeError", "TableFault", "FontFault", "USE_SET", "check_room", "number_at", "u32_at", "OctetsIn", "number_octets", "OctetsOut", "checksum", "PLAIN", "OTTO", "APPLE", "VERSIONS", "HEADER_SIZE", "RECORD_SIZE", "MAGIC_SUM", "ADJUSTMENT", "MOST_TABLES", "Record", "directory_size", "read_record", "need_in_order", "need_apart", "read_records", "tables_of", "read_directory", "has_adjustment", "unadjusted", "table_sum", "check_sums", "search_numbers", "to_fours", "need_tables", "directory_octets", "with_adjustment", "write_sfnt", "lookups_of", "MOST_DEPTH", "NEEDED", "HEADS", "MOST_GLYPHS", "Finding", "findings_of", "substitute_glyphs", "context_glyphs", "pair_glyphs", "table_glyphs", "layout_glyphs", "charmap_glyphs", "gdef_glyphs", "next_lookups", "reached", "depths", "on_rings", "is_behind", "langsys_of", "number_findings", "glyph_findings", "tried", "check_tables", "check_file", "_law_draw", "_law_source"] : List String).map Str.ofString
abbrev row0 : RowW := (OpenLaw.row PySem.Challenge.rw_pb0201_01).toRowW
theorem kkas (P : Params) : kas = (K P).map (·.1) := by kernel_rfl
noncomputable def hook : Hook := kHook K kas kkas
noncomputable def mods : List Str := importedModules pw.main.body
noncomputable def Xt (s : Shared) : Bool := xlAt qv [] s && recOk (RowW.records row0) s
theorem lk0 (w : World) (os : OsState) : (staticsOk (importedModules pw.main.body) (PySem.W.boot_heap w.params) (hz w.params) && namesBound pw (hz w.params) && gensDone (hzs w os) && laidKept (PySem.W.boot_heap w.params) (hz w.params)) = true := by kernel_rfl
theorem lk1 (w : World) (os : OsState) : seen ((recsOf qv).map (·.name)) (ownsOf qv) [] { hzs w os with gens := #[] } = expectedOf qv := by kernel_rfl
theorem lk2 (w : World) (os : OsState) : (hzs w os).heap.bltView = bltViewBooted := by kernel_rfl
theorem lk3 (w : World) (os : OsState) : ((hzs w os).heap.keysOk (looseW qv loose) ((recsOf qv).map (·.name)) ((litsOf qv).map (·.1)) ((clssOf qv (looseW qv loose)).map (·.name)) && (hzs w os).heap.accountedOkI (importedModules pw.main.body) && (hzs w os).heap.isNs mainGlobals && (hzs w os).heap.isNs builtinsNs && tablesOk qv (hzs w os).heap && Xt (hzs w os) && (if true then (hzs w os).gens.size == 0 else !leftWithCleanup (hzs w os).gens)) = true := by kernel_rfl
theorem lk4 (w : World) (os : OsState) : tabsOk qv (hzs w os) = true := by kernel_rfl
theorem lk5 (w : World) (os : OsState) : pinSeenD qv (drecsOf qv) (hzs w os) = pinGoodD (drecsOf qv) := by kernel_rfl
theorem lk6 (w : World) (os : OsState) : plainSeenE qv (looseW qv loose) (hzs w os) = plainGoodE qv (looseW qv loose) := by kernel_rfl
theorem lk7 (w : World) (os : OsState) : plainSeenD qv loose (hzs w os) = plainGoodD qv loose := by kernel_rfl
theorem lk8 (w : World) (os : OsState) : wideSeen qv (hzs w os) = wideGood qv := by kernel_rfl
theorem lk9 (w : World) (os : OsState) : clsSeenW qv loose (hzs w os) = clsGoodW qv loose := by kernel_rfl
theorem lkY (w : World) (os : OsState) : hook.obs (hzs w os) = hook.val w := by kernel_rfl
theorem hsize (w : World) : ((PySem.W.boot_heap w.params).isNs mainGlobals && (Array.mk ([] : List GenState)).size == 0, (PySem.W.boot_heap w.params).objs.size, (PySem.W.boot_heap w.params).nsMap mainGlobals "__annotations__") = (true, m0, ann) := by kernel_rfl
theorem hopen : opening pw = plainProg pw.main.scope.names := by kernel_rfl
theorem left : LeftO pw qv loose Xt hook.obs hook.val 7828 :=
  LeftO.of_pieces (H₀ := PySem.W.boot_heap) (H₁ := hz) (gs₀ := Array.mk []) (gs₁ := Array.mk []) (d₀ := PySem.W.boot_drawn) (d₁ := {}) (k₀ := PySem.W.boot_toks) (k₁ := 979) (m₀ := m0) (ann := ann)
    (boot_open hopen (by decide) (fun _ => rfl)) hsize run (by decide)
    (fun w => funext fun os => looks_pair (lk0 w os) (looks_pair (looks_pair (lk1 w os) (looks_pair (lk2 w os) (looks_pair (lk3 w os) (looks_pair (lk4 w os) (looks_pair (lk5 w os) (looks_pair (lk6 w os) (looks_pair (lk7 w os) (looks_pair (lk8 w os) (lk9 w os))))))))) (lkY w os)))
theorem wsaidR : PySem.Challenge.rw_pb0201_01.row.wellSaid = true := by
  unfold OpenRow.wellSaid OpenRow.partSaid looksOpen
  repeat' with_reducible apply look_both
  all_goals decide +kernel
theorem wsaid : PySem.Challenge.rw_pb0201_01.wellSaid = true := by
  unfold OpenLaw.wellSaid
  rw [wsaidR]
  repeat' with_reducible apply look_both
  all_goals decide +kernel
noncomputable def dlaw : DefRec := ⟨"law", fnA (st 72), fnB (st 72), fnS (st 72), ⟨456, 0, 498, 61⟩⟩
theorem hdef : defOf qv row0.name = some (dlaw, []) := by kernel_rfl
theorem hthe : pw.theDef row0.name = some (dlaw.params, dlaw.body, dlaw.scope) := by kernel_rfl
theorem hkw : kwWritten? dlaw.params.kwonlyargs dlaw.params.kw_defaults = some [] := by kernel_rfl
theorem hoks : (chainsOk qv && opensWell pw && (frees row0 && row0.within.isEmpty)) = true := by kernel_rfl
theorem hbare : pw.bare := ⟨rfl, rfl, rfl, rfl, rfl, by decide +kernel⟩
theorem hwit : row0.promised := by w_witness2
theorem prop_cut {P : Prop} (h : let P' := P; P') : P := h
noncomputable def Ext (h h' : Heap) : Prop := ∀ b o, h.get? b = some o → h'.get? b = some o
theorem Ext.rfl {h : Heap} : Ext h h := fun _ _ e => e
theorem Ext.trans {h h' h'' : Heap} (a : Ext h h') (b : Ext h' h'') : Ext h h'' := fun x o e => b x o (a x o e)
noncomputable def ExtBut (T : List Addr) (h h' : Heap) : Prop := ∀ b o, b ∉ T → h.get? b = some o → h'.get? b = some o
inductive Loc : List Str → List (Option Value) → Str → Value → Prop
  | head {x ns v vs} : Loc (x :: ns) (some v :: vs) x v
  | tail {y u x v ns vs} : Loc ns vs x v → Loc (y :: ns) (u :: vs) x v
theorem Loc.at {ns vs x v} (l : Loc ns vs x v) : ∃ i : Nat, ns[i]? = some x ∧ vs[i]? = some (some v) := by
  induction l with
  | head => exact ⟨0, by rfl, by rfl⟩
  | tail _ ih => obtain ⟨i, a, b⟩ := ih; exact ⟨i + 1, by simpa using a, by simpa using b⟩
inductive LUp : List Str → List (Option Value) → Str → Value → List (Option Value) → Prop
  | head {x u ns v vs} : LUp (x :: ns) (u :: vs) x v (some v :: vs)
  | tail {y u x v ns vs vs'} : LUp ns vs x v vs' → LUp (y :: ns) (u :: vs) x v (u :: vs')
theorem LUp.at {ns vs x v vs'} (l : LUp ns vs x v vs') : ∃ i : Nat, ns[i]? = some x ∧ vs' = vs.set i (some v) := by
  induction l with
  | head => exact ⟨0, by rfl, by rfl⟩
  | tail _ ih => obtain ⟨i, a, b⟩ := ih; exact ⟨i + 1, by simpa using a, by simp [b]⟩
structure Fm (h₀ : Heap) (L : Addr) (ns : List Str) (vs : List (Option Value)) (news : List (Addr × Obj)) (h : Heap) : Prop where
  fr : ∃ m, Fr h₀ L h m ∧ ∀ (i : Nat) (x : Str) (v : Value), ns[i]? = some x → vs[i]? = some (some v) → m x = some v
  led : News h₀ L h news
  nd : (news.map (·.1)).Nodup
section
variable {h₀ h h' : Heap} {L : Addr} {ns : List Str} {vs vs' : List (Option Value)} {news : List (Addr × Obj)}
theorem Fm.keep (F : Fm h₀ L ns vs news h) : Ext h₀ h := let ⟨_, f, _⟩ := F.fr; f.keep
theorem Fm.ltL (F : Fm h₀ L ns vs news h) : L < h.objs.size := let ⟨_, f, _⟩ := F.fr; let ⟨_, _, _, hL, _⟩ := f.ns; Heap.lt_size hL
theorem Fm.ext (F : Fm h₀ L ns vs news h) (k : Ext h h') : Fm h₀ L ns vs news h' :=
  let ⟨m, f, l⟩ := F.fr
  ⟨⟨m, ⟨f.ns.keeps k, fun b o e => k b o (f.keep b o e), f.above⟩, l⟩, fun p hp => ⟨k _ _ (F.led p hp).1, (F.led p hp).2⟩, F.nd⟩
theorem Fm.local (F : Fm h₀ L ns vs news h) {x : Str} {v : Value} (l : Loc ns vs x v) : ∃ m, Fr h₀ L h m ∧ m x = some v :=
  let ⟨m, f, k⟩ := F.fr
  let ⟨i, a, b⟩ := l.at
  ⟨m, f, k i x v a b⟩
theorem Fm.get (F : Fm h₀ L ns vs news h) {a : Addr} {o : Obj} (hm : (a, o) ∈ news) : h.get? a = some o := (F.led _ hm).1
theorem getElem?_inj_of_nodup {α : Type} {l : List α} (hn : l.Nodup) : ∀ {i j : Nat} {x : α}, l[i]? = some x → l[j]? = some x → i = j := by
  intro i j x hi hj
  obtain ⟨hi', rfl⟩ := List.getElem?_eq_some_iff.mp hi
  obtain ⟨hj', e⟩ := List.getElem?_eq_some_iff.mp hj
  exact ((List.getElem_inj hn).mp e).symm
theorem Fm.store (F : Fm h₀ L ns vs news h) (hn : ns.Nodup) {x : Str} {v : Value} (u : LUp ns vs x v vs')
    (hm : ∀ m, h.Ns L m → h'.Ns L (fun y => if y = x then some v else m y)) (hs : Heap.SameBut L h h') : Fm h₀ L ns vs' news h' := by
  refine prop_cut ?_; intro Pcut
  obtain ⟨m, f, l⟩ := F.fr
  try unfold Pcut
  refine prop_cut ?_; intro Pcut
  obtain ⟨i, a, rfl⟩ := u.at
  try unfold Pcut
  refine ⟨⟨_, f.set (hm m f.ns) hs, fun j y z hj hz => ?_⟩, F.led.set hs, F.nd⟩
  by_cases e : i = j
  · subst e
    rw [a] at hj; cases hj
    rw [List.getElem?_set_self'] at hz
    cases q : vs[i]? with
    | none => rw [q] at hz; cases hz
    | some o => rw [q] at hz; simp at hz; simp [hz]
  · rw [List.getElem?_set_ne e] at hz
    have : y ≠ x := fun q => e (getElem?_inj_of_nodup hn a (q ▸ hj))
    simp only [this, if_false]
    exact l j y z hj hz
theorem Fm.push (F : Fm h₀ L ns vs news h) (o : Obj) (hf : o.isFreed = false := by rfl) : Fm h₀ L ns vs ((h.objs.size, o) :: news) (h.push o) := by
  refine prop_cut ?_; intro Pcut
  obtain ⟨m, f, l⟩ := F.fr
  try unfold Pcut
  refine ⟨⟨m, f.push o, l⟩, News.push f F.led o hf, ?_⟩
  rw [List.map_cons, List.nodup_cons]
  refine ⟨fun q => ?_, F.nd⟩
  refine prop_cut ?_; intro Pcut
  obtain ⟨p, hp, e⟩ := List.mem_map.mp q
  try unfold Pcut
  have := Heap.lt_size (F.led p hp).1
  rw [e] at this; exact Nat.lt_irrefl _ this
theorem Fm.drop (F : Fm h₀ L ns vs news h) {news' : List (Addr × Obj)} (hs : List.Sublist news' news) : Fm h₀ L ns vs news' h :=
  ⟨F.fr, fun p hp => F.led p (hs.subset hp), (hs.map (·.1)).nodup F.nd⟩
theorem Fm.perm (F : Fm h₀ L ns vs news h) {news' : List (Addr × Obj)} (hs : news.Perm news') : Fm h₀ L ns vs news' h :=
  ⟨F.fr, fun p hp => F.led p (hs.mem_iff.mpr hp), (hs.map (·.1)).nodup_iff.mp F.nd⟩
theorem Fm.fresh (F : Fm h₀ L ns vs news h) {cells : List (Addr × Obj)} (k : Ext h h') (hc : ∀ p ∈ cells, h'.get? p.1 = some p.2 ∧ h.get? p.1 = none) (hd : (cells.map (·.1)).Nodup) :
    Fm h₀ L ns vs (cells ++ news) h' := by
  have F' := F.ext k
  refine prop_cut ?_; intro Pcut
  obtain ⟨m, f, l⟩ := F.fr
  try unfold Pcut
  refine prop_cut ?_; intro Pcut
  obtain ⟨oL, _, _, hL, _⟩ := f.ns
  try unfold Pcut
  refine ⟨F'.fr, fun p hp => ?_, ?_⟩
  · rcases List.mem_append.mp hp with q | q
    · refine ⟨(hc p q).1, fun e => ?_, ?_⟩
      · rw [← e, (hc p q).2] at hL; cases hL
      · cases z : h₀.get? p.1 with
        | none => rfl
        | some o => have := f.keep _ _ z; rw [(hc p q).2] at this; cases this
    · exact F'.led p q
  · rw [List.map_append, List.nodup_append]
    refine ⟨hd, F.nd, fun a ha b hb e => ?_⟩
    refine prop_cut ?_; intro Pcut
    obtain ⟨p, hp, rfl⟩ := List.mem_map.mp ha
    try unfold Pcut
    refine prop_cut ?_; intro Pcut
    obtain ⟨q, hq, rfl⟩ := List.mem_map.mp hb
    try unfold Pcut
    have := (F.led q hq).1
    rw [← e, (hc p hp).2] at this; cases this
theorem Fm.weak (F : Fm h₀ L ns vs news h) (hv : ∀ (i : Nat) (v : Value), vs'[i]? = some (some v) → vs[i]? = some (some v)) : Fm h₀ L ns vs' news h :=
  let ⟨m, f, l⟩ := F.fr
  ⟨⟨m, f, fun i x v a b => l i x v a (hv i v b)⟩, F.led, F.nd⟩
theorem Fm.mut (F : Fm h₀ L ns vs news h) {a : Addr} {o o' : Obj} {pre post : List (Addr × Obj)} (e : news = pre ++ (a, o) :: post) (k : ExtBut [a] h h') (ha : h'.get? a = some o') :
    Fm h₀ L ns vs (pre ++ (a, o') :: post) h' := by
  subst e
  refine prop_cut ?_; intro Pcut
  obtain ⟨m, f, l⟩ := F.fr
  try unfold Pcut
  refine prop_cut ?_; intro Pcut
  obtain ⟨oL, es, ep, hL, r⟩ := f.ns
  try unfold Pcut
  have A := F.led (a, o) (by simp)
  have nd := F.nd
  have hne : ∀ p ∈ pre ++ post, p.1 ≠ a := by
    rw [List.map_append, List.map_cons] at nd
    have nd' := (List.perm_middle.nodup_iff).mp nd
    rw [List.nodup_cons] at nd'
    intro p hp q
    exact nd'.1 (by rw [← List.map_append]; exact List.mem_map.mpr ⟨p, hp, q⟩)
  refine ⟨⟨m, ⟨⟨oL, es, ep, k _ _ (by simpa using Ne.symm A.2.1) hL, r⟩, fun b x e => k _ _ (fun q => ?_) (f.keep b x e), f.above⟩, l⟩, fun p hp => ?_, ?_⟩
  · have q' : b = a := by simpa using q
    rw [q'] at e; rw [A.2.2] at e; cases e
  · rcases List.mem_append.mp hp with q | q
    · have P := F.led p (List.mem_append_left _ q)
      exact ⟨k _ _ (by simpa using hne p (List.mem_append_left _ q)) P.1, P.2⟩
    · rcases List.mem_cons.mp q with rfl | q
      · exact ⟨ha, A.2⟩
      · have P := F.led p (List.mem_append_right _ (.tail _ q))
        exact ⟨k _ _ (by simpa using hne p (List.mem_append_right _ q)) P.1, P.2⟩
  · simpa using nd
end
noncomputable def topLoose : List Str := looseW qv loose ++ (recsOf qv).map (·.name) ++ (litsOf qv).map (·.1) ++ (clssOf qv (looseW qv loose)).map (·.name)
structure Wd (w : World) (mg mb : Str → Option Value) (mean : ExcName → Option Value) (h : Heap) : Prop where
  k : (K w.params).In h
  t : Top topProg topLoose mean mg mb h
theorem Wd.keeps {w mg mb mean} {h h' : Heap} (W : Wd w mg mb mean h) (k : Ext h h') : Wd w mg mb mean h' := ⟨W.k.keeps k, W.t.keeps k⟩
noncomputable def gtab : List (Str × Value) := ([
  ("ShapeError", (.ref 48)),
  ("TableFault", (.ref 61)),
  ("FontFault", (.ref 73)),
  ("check_room", (.ref 82)),
  ("number_at", (.ref 89)),
  ("u32_at", (.ref 96)),
  ("OctetsIn", (.ref 180)),
  ("number_octets", (.ref 189)),
  ("OctetsOut", (.ref 272)),
  ("checksum", (.ref 283)),
  ("PLAIN", (.int (65536) 526)),
  ("OTTO", (.int (1330926671) 528)),
  ("APPLE", (.int (1953658213) 530)),
  ("VERSIONS", (.ref 284)),
  ("HEADER_SIZE", (.int (12) 533)),
  ("RECORD_SIZE", (.int (16) 535))] : List (Str × Value)) ++ ([
  ("MAGIC_SUM", (.int (2981146554) 537)),
  ("ADJUSTMENT", (.int (8) 539)),
  ("MOST_TABLES", (.int (4095) 541)),
  ("Record", (.ref 308)),
  ("directory_size", (.ref 319)),
  ("read_record", (.ref 326)),
  ("need_in_order", (.ref 333)),
  ("need_apart", (.ref 338)),
  ("read_records", (.ref 343)),
  ("tables_of", (.ref 348)),
  ("read_directory", (.ref 355)),
  ("has_adjustment", (.ref 362)),
  ("unadjusted", (.ref 369)),
  ("table_sum", (.ref 376)),
  ("check_sums", (.ref 381)),
  ("search_numbers", (.ref 388))] : List (Str × Value)) ++ ([
  ("to_fours", (.ref 395)),
  ("need_tables", (.ref 402)),
  ("directory_octets", (.ref 409)),
  ("with_adjustment", (.ref 416)),
  ("write_sfnt", (.ref 423)),
  ("NEEDED", (.ref 431)),
  ("HEADS", (.ref 432)),
  ("MOST_GLYPHS", (.int (65536) 759)),
  ("Finding", (.ref 456)),
  ("tried", (.ref 563)),
  ("check_tables", (.ref 568)),
  ("check_file", (.ref 573)),
  ("_law_draw", (.ref 580)),
  ("_law_source", (.ref 585)),
  ("law", (.ref 590))] : List (Str × Value))
noncomputable def btab : List (Str × Value) := [("len", .builtin "len"), ("str", .type "str"), ("bytes", .type "bytes"), ("bytearray", .type "bytearray"), ("range", .type "range"), ("chr", .builtin "chr"), ("ord", .builtin "ord"), ("int", .type "int"), ("dict", .type "dict"), ("sorted", .builtin "sorted"), ("min", .builtin "min"), ("max", .builtin "max"), ("super", .type "super")]
noncomputable def gOk (P : Params) (p : Str × Value) : Bool := decide (nsIn (K P) mainGlobals p.1 = some (some p.2))
noncomputable def bOk (P : Params) (p : Str × Value) : Bool := decide (nsIn (K P) mainGlobals p.1 = some none) && decide (bootBuiltins p.1 = some p.2) && decide (p.1 ≠ "__name__")
theorem gtab_ok (P : Params) : gtab.all (gOk P) = true := by kernel_rfl
theorem btab_ok (P : Params) : btab.all (bOk P) = true := by kernel_rfl
theorem gtab_at {P : Params} {p : Str × Value} (h : p ∈ gtab) : nsIn (K P) mainGlobals p.1 = some (some p.2) := of_decide_eq_true (List.all_eq_true.mp (gtab_ok P) p h)
theorem btab_at {P : Params} {p : Str × Value} (h : p ∈ btab) : nsIn (K P) mainGlobals p.1 = some none ∧ bootBuiltins p.1 = some p.2 ∧ p.1 ≠ "__name__" := by
  have := List.all_eq_true.mp (btab_ok P) p h
  simp only [bOk, Bool.and_eq_true, decide_eq_true_eq] at this
  exact ⟨this.1.1, this.1.2, this.2⟩
structure Fi (cs : Scope) (ns cns : List Str) (gs bs : List (Str × Value)) : Prop where
  kind : cs.kind = .function
  nd : ns.Nodup
  loc : ∀ x ∈ ns, cs.names.lookup x = some .local ∧ (x == ("__debug__" : Str)) = false
  glb : ∀ p ∈ gs, cs.names.lookup p.1 = some .globalImplicit ∧ (p.1 == ("__debug__" : Str)) = false ∧ p ∈ gtab
  blt : ∀ p ∈ bs, cs.names.lookup p.1 = some .globalImplicit ∧ (p.1 == ("__debug__" : Str)) = false ∧ p ∈ btab
  cel : ∀ x ∈ cns, cs.names.lookup x = some .cell ∧ (x == ("__debug__" : Str)) = false
  co : cs.isCoroutine = false
  gen : cs.isGenerator = false
noncomputable def fiOk (cs : Scope) (ns cns : List Str) (gs bs : List (Str × Value)) : Bool :=
  decide (cs.kind = .function) && decide ns.Nodup && ns.all (fun x => decide (cs.names.lookup x = some .local) && !(x == ("__debug__" : Str))) &&
  gs.all (fun p => decide (cs.names.lookup p.1 = some .globalImplicit) && !(p.1 == ("__debug__" : Str)) && decide (p ∈ gtab)) &&
  bs.all (fun p => decide (cs.names.lookup p.1 = some .globalImplicit) && !(p.1 == ("__debug__" : Str)) && decide (p ∈ btab)) && cns.all (fun x => decide (cs.names.lookup x = some .cell) && !(x == ("__debug__" : Str))) && !cs.isCoroutine && !cs.isGenerator
theorem Fi.of {cs : Scope} {ns cns : List Str} {gs bs : List (Str × Value)} (e : fiOk cs ns cns gs bs = true) : Fi cs ns cns gs bs := by
  simp only [fiOk, Bool.and_eq_true, decide_eq_true_eq, List.all_eq_true, Bool.not_eq_true'] at e
  obtain ⟨⟨⟨⟨⟨⟨⟨a, b⟩, c⟩, d⟩, f⟩, k⟩, i⟩, j⟩ := e
  exact ⟨a, b, c, fun p hp => ⟨(d p hp).1.1, (d p hp).1.2, (d p hp).2⟩, fun p hp => ⟨(f p hp).1.1, (f p hp).1.2, (f p hp).2⟩, k, i, j⟩
noncomputable abbrev Mo (w : World) : Model := model pw w
structure En (env : Env) (L : Addr) (cs : Scope) (cl : List (Str × Addr)) : Prop where
  sc : env.scope = cs
  lo : env.locals = L
  gl : env.globals = mainGlobals
  bu : env.builtins = builtinsNs
  ce : env.cells = cl
theorem En.fn {cn : Str} {cs : Scope} {L a : Addr} {cd : Value} : En (envOf cn cs L a cd) L cs [] := ⟨rfl, rfl, rfl, rfl, rfl⟩
theorem En.fnC {cn : Str} {cs : Scope} {L a : Addr} {cd : Value} : En (envOfC cn cs L a cd) L cs (cellsFrom (L + 1) cs.names []) := ⟨rfl, rfl, rfl, rfl, rfl⟩
theorem En.comp {env : Env} {L C : Addr} {cs scope : Scope} {cl cl' : List (Str × Addr)} (e : En env L cs cl') : En (compEnvC scope cl C env) C (relabel scope env) cl := ⟨rfl, rfl, e.gl, e.bu, rfl⟩
section
variable {w : World} {A : Around} {E : Value → Shared → Prop} {h₀ h : Heap} {g : Array GenState} {d : Drawn} {tk : Nat} {os : OsState} {L a : Addr} {mg mb : Str → Option Value} {mean : ExcName → Option Value}
  {ns cns : List Str} {vs : List (Option Value)} {gs bs : List (Str × Value)} {news : List (Addr × Obj)} {cs : Scope} {cl : List (Str × Addr)} {x : Str} {pos p' : Pos} {v : Value} {env : Env}
theorem En.kind (e : En env L cs cl) (I : Fi cs ns cns gs bs) : env.scope.kind = .function := by rw [e.sc]; exact I.kind
theorem En.of (e : En env L cs cl) {k : NameKind} (h : cs.names.lookup x = some k) : env.kindOf x = some k := by unfold Env.kindOf; rw [e.sc]; exact h
theorem r_locn {Q : Value → Shared → Prop} (e : En env L cs cl) (I : Fi cs ns cns gs bs) (F : Fm h₀ L ns vs news h) (l : Loc ns vs x v) (hq : Q v ⟨h, g, d, tk, os⟩) :
    wpAny (Mo w) A (loadName env x) Q E ⟨h, g, d, tk, os⟩ := by
  refine prop_cut ?_; intro Pcut
  obtain ⟨m, f, hm⟩ := F.local l
  try unfold Pcut
  refine prop_cut ?_; intro Pcut
  obtain ⟨i, hi, _⟩ := l.at
  try unfold Pcut
  exact wpAny_loadName_local (e.kind I) (e.of (I.loc x (List.mem_of_getElem? hi)).1) (by rw [e.lo]; exact f.ns) hm hq
theorem r_loc {Q : Value → Shared → Prop} (e : En env L cs cl) (I : Fi cs ns cns gs bs) (F : Fm h₀ L ns vs news h) (l : Loc ns vs x v) (hq : Q v ⟨h, g, d, tk, os⟩) :
    wpAny (Mo w) A (eval (.Name x pos) env) Q E ⟨h, g, d, tk, os⟩ := by
  refine prop_cut ?_; intro Pcut
  obtain ⟨i, hi, _⟩ := l.at
  try unfold Pcut
  exact wpAny_Name (r_locn e I F l hq) (I.loc x (List.mem_of_getElem? hi)).2
theorem r_glb {Q : Value → Shared → Prop} (e : En env L cs cl) (I : Fi cs ns cns gs bs) (W : Wd w mg mb mean h₀) (F : Fm h₀ L ns vs news h) (l : (x, v) ∈ gs) (hq : Q v ⟨h, g, d, tk, os⟩) :
    wpAny (Mo w) A (eval (.Name x pos) env) Q E ⟨h, g, d, tk, os⟩ := by
  have hx := I.glb _ l
  refine Calls.Name_function_global (e.kind I) (e.of hx.1) ?_ hx.2.1
  exact Calls.loadGlobal_global (by rw [e.gl]; exact W.t.g.keeps F.keep) (mg_of W.k W.t.g (gtab_at hx.2.2)) hq
theorem r_blt {Q : Value → Shared → Prop} (e : En env L cs cl) (I : Fi cs ns cns gs bs) (W : Wd w mg mb mean h₀) (F : Fm h₀ L ns vs news h) (l : (x, v) ∈ bs) (hq : Q v ⟨h, g, d, tk, os⟩) :
    wpAny (Mo w) A (eval (.Name x pos) env) Q E ⟨h, g, d, tk, os⟩ := by
  have hx := I.blt _ l
  have hb := btab_at (P := w.params) hx.2.2
  refine Calls.Name_function_global (e.kind I) (e.of hx.1) ?_ hx.2.1
  exact Calls.loadGlobal_builtin (by rw [e.gl]; exact W.t.g.keeps F.keep) (mg_none_of W.k W.t.g hb.1) (by rw [e.bu]; exact W.t.b.keeps F.keep) ((W.t.builtins x hb.2.2).trans hb.2.1) hq
theorem r_cell {Q : Value → Shared → Prop} {c : Addr} (e : En env L cs cl) (I : Fi cs ns cns gs bs) (l : x ∈ cns) (hc : cl.lookup x = some c) (hi : h.IsCell c (some v)) (hq : Q v ⟨h, g, d, tk, os⟩) :
    wpAny (Mo w) A (eval (.Name x pos) env) Q E ⟨h, g, d, tk, os⟩ :=
  wpAny_Name (wpAny_loadName_cell (e.kind I) (e.of (I.cel x l).1) (by rw [e.ce]; exact hc) hi hq) (I.cel x l).2
theorem r_st {Q : Unit → Shared → Prop} {vs' : List (Option Value)} (e : En env L cs cl) (I : Fi cs ns cns gs bs) (F : Fm h₀ L ns vs news h) (u : LUp ns vs x v vs') (hq : ∀ h', Fm h₀ L ns vs' news h' → Q () ⟨h', g, d, tk + 1, os⟩) :
    wpAny (Mo w) A (storeName env x v) Q E ⟨h, g, d, tk, os⟩ := by
  refine prop_cut ?_; intro Pcut
  obtain ⟨m, f, _⟩ := F.fr
  try unfold Pcut
  refine prop_cut ?_; intro Pcut
  obtain ⟨i, hi, _⟩ := u.at
  try unfold Pcut
  refine wpAny_storeName_local (e.of (I.loc x (List.mem_of_getElem? hi)).1) (by rw [e.lo]; exact f.ns) (fun h' hn hs => hq h' ?_) (by rw [e.kind I]; rfl)
  rw [e.lo] at hn hs
  exact F.store I.nd u (fun m' hm' => by
    refine prop_cut ?_; intro Pcut
    obtain ⟨o, es, ep, ho, hd, hk, hf⟩ := hm'
    try unfold Pcut
    refine prop_cut ?_; intro Pcut
    obtain ⟨o2, es2, ep2, ho2, hd2, hk2, hf2⟩ := f.ns
    try unfold Pcut
    rw [ho] at ho2; cases ho2
    rw [hd] at hd2; cases hd2
    have : m' = m := by funext y; rw [← hf y, ← hf2 y]
    rw [this]; exact hn) hs
end
theorem vs1 {P : List Value → Prop} (h : ∀ a, P [a]) : ∀ vals : List Value, vals.length = 1 → P vals := fun vals e => by
  obtain ⟨a, rfl⟩ := List.length_eq_one_iff.mp e
  exact h a
theorem vsS {P : List Value → Prop} {n : Nat} (h : ∀ a l, l.length = n → P (a :: l)) : ∀ vals : List Value, vals.length = n + 1 → P vals
  | a :: l, e => h a l (Nat.succ.inj e)
theorem vs2 {P : List Value → Prop} (h : ∀ a b, P [a, b]) : ∀ vals : List Value, vals.length = 2 → P vals := vsS fun a => vs1 fun b => h a b
theorem vs3 {P : List Value → Prop} (h : ∀ a b c, P [a, b, c]) : ∀ vals : List Value, vals.length = 3 → P vals := vsS fun a => vs2 fun b c => h a b c
theorem vs4 {P : List Value → Prop} (h : ∀ a b c d, P [a, b, c, d]) : ∀ vals : List Value, vals.length = 4 → P vals := vsS fun a => vs3 fun b c d => h a b c d
theorem vs5 {P : List Value → Prop} (h : ∀ a b c d e, P [a, b, c, d, e]) : ∀ vals : List Value, vals.length = 5 → P vals := vsS fun a => vs4 fun b c d e => h a b c d e
theorem vs6 {P : List Value → Prop} (h : ∀ a b c d e f, P [a, b, c, d, e, f]) : ∀ vals : List Value, vals.length = 6 → P vals := vsS fun a => vs5 fun b c d e f => h a b c d e f
structure Rm (n : Nat) (A : Around) : Prop where
  dep : A.depth + n < recursionLimit
  uni : A.units + 8 * n < cLine
theorem Rm.le {n k : Nat} {A : Around} (r : Rm n A) (h : k ≤ n := by lia) : Rm k A := ⟨by have := r.dep; lia, by have := r.uni; lia⟩
theorem Rm.deep {n : Nat} {A : Around} {env : Env} (r : Rm (n + 1) A) : Rm n (A.deeper env) := ⟨by have := r.dep; show A.depth + 1 + n < _; lia, by have := r.uni; show A.units + 3 + 8 * n < _; lia⟩
theorem Rm.in1 {n : Nat} {A : Around} (r : Rm (n + 1) A) : Rm n A.in1 := ⟨by have := r.dep; show A.depth + n < _; lia, by have := r.uni; show A.units + 1 + 8 * n < _; lia⟩
theorem Rm.room {n : Nat} {A : Around} (r : Rm n A) : A.depth < recursionLimit := by have := r.dep; lia
theorem Rm.units {n : Nat} {A : Around} (r : Rm n A) : A.units < cLine := by have := r.uni; lia
theorem nodup_zip_fst : ∀ {names : List Str} {vals : List Value}, names.Nodup → ((names.zip vals).map (·.1)).Nodup
  | [], _, _ => by simp
  | _ :: _, [], _ => by simp
  | a :: r, v :: s, h => by
    rw [List.nodup_cons] at h
    rw [List.zip_cons_cons, List.map_cons, List.nodup_cons]
    refine ⟨fun q => ?_, nodup_zip_fst h.2⟩
    refine prop_cut ?_; intro Pcut
    obtain ⟨p, hp, e⟩ := List.mem_map.mp q
    try unfold Pcut
    have z := (List.of_mem_zip (a := p.1) (b := p.2) hp).1
    rw [show p.1 = a from e] at z; exact h.1 z
theorem nodup_lookup {x : Str} {v : Value} : ∀ {l : List (Str × Value)}, (l.map (·.1)).Nodup → (x, v) ∈ l → l.lookup x = some v
  | [], _, h => nomatch h
  | (a, b) :: r, nd, hm => by
    rw [List.map_cons, List.nodup_cons] at nd
    rw [List.lookup_cons]
    rcases List.mem_cons.mp hm with e | e
    · cases e; simp
    · have : x ≠ a := fun q => nd.1 (q ▸ List.mem_map.mpr ⟨(x, v), e, rfl⟩)
      have hb : (x == a) = false := beq_eq_false_iff_ne.mpr this
      rw [hb]; exact nodup_lookup nd.2 e
theorem zip_lookup {names : List Str} {vals : List Value} {i : Nat} {x : Str} {v : Value} (hn : names.Nodup) (hx : names[i]? = some x) (hv : vals[i]? = some v) : (names.zip vals).reverse.lookup x = some v := by
  refine nodup_lookup ?_ ?_
  · rw [List.map_reverse]; exact (List.reverse_perm _).nodup_iff.mpr (nodup_zip_fst hn)
  · rw [List.mem_reverse]
    refine List.mem_iff_getElem?.mpr ⟨i, ?_⟩
    rw [List.getElem?_zip_eq_some]; exact ⟨hx, hv⟩
section
variable {w : World} {A : Around} {E : Value → Shared → Prop} {h₀ hb h : Heap} {g : Array GenState} {d : Drawn} {tk : Nat} {os : OsState} {L a : Addr} {mg mb : Str → Option Value} {mean : ExcName → Option Value}
  {ns cns : List Str} {vs : List (Option Value)} {cl : List (Str × Addr)} {gs bs : List (Str × Value)} {news : List (Addr × Obj)} {cn : Str} {cs : Scope} {cd : Value} {x : Str} {pos p' : Pos} {v : Value} {env : Env}
structure Df (w : World) (f : Addr) (qual : Str) (body : List Stmt) (cs : Scope) (cdv : Value) (params : List Str) (cns : List Str) (ns : List Str) (gs bs : List (Str × Value)) : Prop where
  ho : ∃ oc od name pr dV kV doc pm an ct osl, (K w.params).lookup f = some ⟨oc, od, .func (fnOf name qual pr body cs dV kV doc pm an cdv ct), osl⟩ ∧
    (∀ (s : Shared) (vals : List Value), K w.params |>.In s.heap → vals.length = params.length → BindsTo s (fnOf name qual pr body cs dV kV doc pm an cdv ct) ⟨vals, []⟩ (params.zip vals))
  cd : codeIn (K w.params) cdv qual = true
  fi : Fi cs ns cns gs bs
  pre : cns = [] → ns.take params.length = params
  cell : cns = [] → ∀ x ∈ cs.names, x.2 ≠ .cell
theorem Df.of {w : World} {f : Addr} {qual : Str} {body : List Stmt} {cs : Scope} {cdv : Value} {params cns ns : List Str} {gs bs : List (Str × Value)} (od : Option Addr) (name : Str) (pr : Arguments) (dV pm : Value) (h1 : (K w.params).lookup f = some ⟨.type "function", od, .func (fnOf name qual pr body cs dV .none .none pm none cdv .none), #[]⟩)
    (h2 : ∀ (s : Shared) (vals : List Value), (K w.params).In s.heap → vals.length = params.length → BindsTo s (fnOf name qual pr body cs dV .none .none pm none cdv .none) ⟨vals, []⟩ (params.zip vals)) (cd : codeIn (K w.params) cdv qual = true) (fi : Fi cs ns cns gs bs)
    (pre : cns = [] → ns.take params.length = params) (cell : cns = [] → ∀ x ∈ cs.names, x.2 ≠ .cell) : Df w f qual body cs cdv params cns ns gs bs := ⟨⟨_, _, _, _, _, _, _, _, _, _, _, h1, h2⟩, cd, fi, pre, cell⟩
theorem callF {f : Addr} {qual : Str} {body : List Stmt} {cdv : Value} {params : List Str} {vals : List Value} {R : Result → Shared → Prop} (D : Df w f qual body cs cdv params [] ns gs bs)
    (W : Wd w mg mb mean hb) (kb : Ext hb h) (hnew : ∀ p ∈ news, h.get? p.1 = some p.2 ∧ hb.get? p.1 = none) (hnd : (news.map (·.1)).Nodup) (hroom : A.depth < recursionLimit) (hlen : vals.length = params.length)
    (hbody : ∀ L h₁ tk₁, Wd w mg mb mean (hideAll h (news.map (·.1))) → Ext hb (hideAll h (news.map (·.1))) → Fm (hideAll h (news.map (·.1))) L ns (vals.map some ++ List.replicate (ns.length - params.length) none) news h₁ →
      wpAny (Mo w) (A.deeper (envOf qual cs L f cdv)) (execs body (envOf qual cs L f cdv)) (fun fl s' => R (.ok (.ret (match fl with | .ret v => v | _ => .none))) s')
        (fun e s' => wpAny (Mo w) (A.deeper (envOf qual cs L f cdv)) (leaving (envOf qual cs L f cdv) e) (fun _ s'' => R (.error e) s'') (fun e' s'' => R (.error e') s'') s') ⟨h₁, g, d, tk₁, os⟩) :
    codeAny (Mo w) A (.call (.ref f) ⟨vals, []⟩) R ⟨h, g, d, tk, os⟩ := by
  refine prop_cut ?_; intro Pcut
  obtain ⟨oc, od, name, pr, dV, kV, doc, pm, an, ct, osl, ho, hbind⟩ := D.ho
  try unfold Pcut
  have X : (K w.params).In h := W.k.keeps kb
  have hz : ∀ x ∈ params.zip vals, cs.names.lookup x.1 = some .local := fun y hy => by
    have := (List.of_mem_zip (a := y.1) (b := y.2) hy).1
    rw [← (D.pre rfl)] at this
    exact (D.fi.loc _ (List.mem_of_mem_take this)).1
  refine codeAny_call_def (fd := fnOf name qual pr body cs dV kV doc pm an cdv ct) (body := body) (binds := params.zip vals) hroom (X _ _ ho) rfl ((W.t.nolimit).keeps kb) (codeRec_of X D.cd) rfl
    (hbind ⟨h, g, d, tk, os⟩ vals X hlen) (D.cell rfl) hz (fun h₁ hns hk₁ => ?_) D.fi.co D.fi.gen D.fi.kind
  have hfr : ∀ p ∈ news, (hideAll h (news.map (·.1))).get? p.1 = none := fun p hp => hideAll_none _ (List.mem_map_of_mem hp)
  have hx : Ext hb (hideAll h (news.map (·.1))) := fun b o e => hideAll_get _ (kb b o e) fun q => by
    refine prop_cut ?_; intro Pcut
    obtain ⟨p, hp, rfl⟩ := List.mem_map.mp q
    try unfold Pcut
    rw [(hnew p hp).2] at e; cases e
  refine hbody h.objs.size h₁ _ (W.keeps hx) hx ?_
  refine ⟨⟨_, ⟨hns, fun b o e => hk₁ b o (of_hideAll _ e), Nat.le_of_eq (hideAll_size _ _)⟩, fun i y z hi hv => ?_⟩, fun p hp => ⟨hk₁ _ _ (hnew p hp).1, Nat.ne_of_lt (Heap.lt_size (hnew p hp).1), hfr p hp⟩, hnd⟩
  have hlt : i < vals.length := by
    by_cases q : i < vals.length
    · exact q
    · rw [List.getElem?_append_right (by simp; lia)] at hv
      obtain ⟨_, e⟩ := List.getElem?_eq_some_iff.mp hv
      simp at e
  rw [List.getElem?_append_left (by simpa using hlt), List.getElem?_map] at hv
  have hpn : params.Nodup := by rw [← (D.pre rfl)]; exact D.fi.nd.sublist (List.take_sublist _ _)
  refine zip_lookup (i := i) hpn ?_ ?_
  · rw [← (D.pre rfl), List.getElem?_take]
    rw [if_pos (by lia)]; exact hi
  · cases q : vals[i]? with
    | none => rw [q] at hv; cases hv
    | some o => rw [q] at hv; simpa using hv
theorem callP {f : Addr} {qual : Str} {body : List Stmt} {cdv : Value} {params : List Str} {vals : List Value} {Q : Value → Shared → Prop} (D : Df w f qual body cs cdv params [] ns gs bs)
    (W : Wd w mg mb mean h) (hroom : A.depth < recursionLimit) (hlen : vals.length = params.length)
    (hbody : ∀ L h₁ tk₁, Fm h L ns (vals.map some ++ List.replicate (ns.length - params.length) none) [] h₁ →
      wpAny (Mo w) (A.deeper (envOf qual cs L f cdv)) (execs body (envOf qual cs L f cdv)) (fun fl s' => Q (match fl with | .ret v => v | _ => .none) s') (fun _ _ => False) ⟨h₁, g, d, tk₁, os⟩) :
    wpAny (Mo w) A (call (.ref f) vals) Q E ⟨h, g, d, tk, os⟩ := by
  exact wpAny_call (callF (news := []) D W Ext.rfl (fun _ h => nomatch h) (by simp) hroom hlen fun L h₁ tk₁ W₀ _ F =>
    wpAny_mono (hbody L h₁ tk₁ F) (fun _ _ q => q) fun _ _ q => q.elim)
end
section
variable {w : World} {A : Around} {E : Value → Shared → Prop} {h₀ hb h : Heap} {g : Array GenState} {d : Drawn} {tk : Nat} {os : OsState} {L a : Addr} {mg mb : Str → Option Value} {mean : ExcName → Option Value}
  {ns cns : List Str} {vs : List (Option Value)} {cl : List (Str × Addr)} {gs bs : List (Str × Value)} {news : List (Addr × Obj)} {cn : Str} {cs : Scope} {cd : Value} {x : Str} {pos p' : Pos} {v : Value} {env : Env} {M : Model} {s : Shared}
  {i j : Int} {t u : Tok} {k : Nat} {b c : Array UInt8}
theorem r_cint {Q : Value → Shared → Prop} (hq : Q (.int i tk) ⟨h, g, d, tk + 1, os⟩) : wpAny M A (eval (.Constant (.int i) k pos) env) Q E ⟨h, g, d, tk, os⟩ := wpAny_Constant_int hq
theorem r_cstr {Q : Value → Shared → Prop} (hq : Q (.str x tk) ⟨h, g, d, tk + 1, os⟩) : wpAny M A (eval (.Constant (.str x) k pos) env) Q E ⟨h, g, d, tk, os⟩ := Calls.Constant_str hq
theorem r_cbytes {l : List UInt8} {Q : Value → Shared → Prop} (hq : Q (.bytes l.toArray tk) ⟨h, g, d, tk + 1, os⟩) : wpAny M A (eval (.Constant (.bytes l) k pos) env) Q E ⟨h, g, d, tk, os⟩ := Constant_bytes hq
theorem r_cnone {Q : Value → Shared → Prop} (hq : Q .none s) : wpAny M A (eval (.Constant .none k pos) env) Q E s := wpAny_Constant_none hq
theorem r_cbool {bb : Bool} {Q : Value → Shared → Prop} (hq : Q (.bool bb) s) : wpAny M A (eval (.Constant (.bool bb) k pos) env) Q E s := wpAny_Constant_bool hq
theorem r_add {Q : Value → Shared → Prop} (hq : Q (.int (i + j) tk) ⟨h, g, d, tk + 1, os⟩) : wpAny (Mo w) A (binaryOp .Add (.int i t) (.int j u)) Q E ⟨h, g, d, tk, os⟩ := PyProof.Rows.add_int hq
theorem r_sub {Q : Value → Shared → Prop} (hq : Q (.int (i - j) tk) ⟨h, g, d, tk + 1, os⟩) : wpAny (Mo w) A (binaryOp .Sub (.int i t) (.int j u)) Q E ⟨h, g, d, tk, os⟩ := PyProof.Rows.sub_int hq
theorem r_mul {Q : Value → Shared → Prop} (hm : IntMulOk i j) (hq : Q (.int (i * j) tk) ⟨h, g, d, tk + 1, os⟩) : wpAny (Mo w) A (binaryOp .Mult (.int i t) (.int j u)) Q E ⟨h, g, d, tk, os⟩ := PyProof.Rows.mul_int hq hm
theorem r_mod {Q : Value → Shared → Prop} (hj : j ≠ 0) (hq : Q (.int (i.fmod j) tk) ⟨h, g, d, tk + 1, os⟩) : wpAny (Mo w) A (binaryOp .Mod (.int i t) (.int j u)) Q E ⟨h, g, d, tk, os⟩ := PyProof.Rows.mod_int hj hq
theorem r_or {Q : Value → Shared → Prop} (hq : Q (.int (Builtin.bitOr i j) tk) ⟨h, g, d, tk + 1, os⟩) : wpAny (Mo w) A (binaryOp .BitOr (.int i t) (.int j u)) Q E ⟨h, g, d, tk, os⟩ := PyProof.Rows.or_int hq
theorem r_and {Q : Value → Shared → Prop} (hq : Q (.int (Builtin.bitAnd i j) tk) ⟨h, g, d, tk + 1, os⟩) : wpAny (Mo w) A (binaryOp .BitAnd (.int i t) (.int j u)) Q E ⟨h, g, d, tk, os⟩ := PyProof.Rows.and_int hq
theorem r_shr {Q : Value → Shared → Prop} (hj : 0 ≤ j) (hq : Q (.int (i.fdiv (2 ^ j.toNat)) tk) ⟨h, g, d, tk + 1, os⟩) : wpAny (Mo w) A (binaryOp .RShift (.int i t) (.int j u)) Q E ⟨h, g, d, tk, os⟩ := PyProof.Rows.rshift_int hj hq
theorem r_shl {Q : Value → Shared → Prop} (hj : 0 ≤ j) (hj2 : j ≤ 1000000) (hi : i.natAbs < 2 ^ 64) (hq : Q (.int (i * 2 ^ j.toNat) tk) ⟨h, g, d, tk + 1, os⟩) : wpAny (Mo w) A (binaryOp .LShift (.int i t) (.int j u)) Q E ⟨h, g, d, tk, os⟩ := PyProof.Rows.lshift_int_small hj hj2 hi hq
theorem r_lt {Q : Value → Shared → Prop} (hq : Q (.bool (decide (i < j))) ⟨h, g, d, tk, os⟩) : wpAny (Mo w) A (compareOp .Lt (.int i t) (.int j u)) Q E ⟨h, g, d, tk, os⟩ := PyProof.Rows.lt_int hq
theorem r_gt {Q : Value → Shared → Prop} (hq : Q (.bool (decide (j < i))) ⟨h, g, d, tk, os⟩) : wpAny (Mo w) A (compareOp .Gt (.int i t) (.int j u)) Q E ⟨h, g, d, tk, os⟩ := PyProof.Rows.gt_int hq
theorem r_le {Q : Value → Shared → Prop} (hq : Q (.bool (decide (i ≤ j))) ⟨h, g, d, tk, os⟩) : wpAny (Mo w) A (compareOp .LtE (.int i t) (.int j u)) Q E ⟨h, g, d, tk, os⟩ := PyProof.Rows.le_int hq
theorem r_ne {Q : Value → Shared → Prop} (hq : Q (.bool (i != j)) ⟨h, g, d, tk, os⟩) : wpAny (Mo w) A (compareOp .NotEq (.int i t) (.int j u)) Q E ⟨h, g, d, tk, os⟩ := PyProof.Rows.ne_int hq
theorem r_ifT {P : Prop} [Decidable P] {X Y : Prop} (hc : P) (hx : X) : if P then X else Y := by rw [if_pos hc]; exact hx
theorem r_ifF {P : Prop} [Decidable P] {X Y : Prop} (hc : ¬ P) (hy : Y) : if P then X else Y := by rw [if_neg hc]; exact hy
theorem r_if {P : Prop} [Decidable P] {X Y : Prop} (hx : P → X) (hy : ¬ P → Y) : if P then X else Y := by
  by_cases q : P
  · rw [if_pos q]; exact hx q
  · rw [if_neg q]; exact hy q
theorem r_call {f : Addr} {as : List Expr} {Q : Value → Shared → Prop} {e : Expr} (en : En env L cs cl) (I : Fi cs ns cns gs bs) (W : Wd w mg mb mean h₀) (F : Fm h₀ L ns vs news h) (l : (x, .ref f) ∈ gs) (hk : keepIn (K w.params) (.ref f) = true)
    (hq : wpAny (Mo w) A (spliced (backTo pos (starEach (e :: as) env))) (fun ws s₁ => Ext h₀ s₁.heap ∧ wpAny (Mo w) A (call (.ref f) ws) Q E s₁) E ⟨h, g, d, tk, os⟩)
    (he : starEach (e :: as) env = (false, eval e env) :: starEach as env := by rfl)
    (hp : (backTo pos (starEach as env)).any (·.1) = false := by rfl) :
    wpAny (Mo w) A (eval (.Call (.Name x p') (e :: as) [] pos) env) Q E ⟨h, g, d, tk, os⟩ :=
  wpAny_Call_NameR (r_glb en I W F l (callWith_K W.k hk (wpAny_mono hq (fun ws s₁ q => ⟨W.k.keeps q.1, q.2⟩) fun _ _ x => x) he hp))
theorem r_call0 {f : Addr} {Q : Value → Shared → Prop} (en : En env L cs cl) (I : Fi cs ns cns gs bs) (W : Wd w mg mb mean h₀) (F : Fm h₀ L ns vs news h) (l : (x, .ref f) ∈ gs) (hk : keepIn (K w.params) (.ref f) = true)
    (hq : wpAny (Mo w) A (call (.ref f) []) Q E ⟨h, g, d, tk, os⟩) :
    wpAny (Mo w) A (eval (.Call (.Name x p') [] [] pos) env) Q E ⟨h, g, d, tk, os⟩ :=
  wpAny_Call_NameR (r_glb en I W F l (callWith_K0 (W.k.keeps F.keep) hk hq))
theorem r_callB {id : String} {as : List Expr} {Q : Value → Shared → Prop} {e : Expr} (en : En env L cs cl) (I : Fi cs ns cns gs bs) (W : Wd w mg mb mean h₀) (F : Fm h₀ L ns vs news h) (l : (x, .builtin id) ∈ bs)
    (hq : wpAny (Mo w) A (spliced (backTo pos (starEach (e :: as) env))) (fun ws s₁ => wpAny (Mo w) A (call (.builtin id) ws) Q E s₁) E ⟨h, g, d, tk, os⟩)
    (he : starEach (e :: as) env = (false, eval e env) :: starEach as env := by rfl)
    (hp : (backTo pos (starEach as env)).any (·.1) = false := by rfl) :
    wpAny (Mo w) A (eval (.Call (.Name x p') (e :: as) [] pos) env) Q E ⟨h, g, d, tk, os⟩ :=
  wpAny_Call_NameR (r_blt en I W F l (PyProof.Rows.callWith_builtin1 hq he hp))
theorem r_callT {T : String} {as : List Expr} {Q : Value → Shared → Prop} {e : Expr} (en : En env L cs cl) (I : Fi cs ns cns gs bs) (W : Wd w mg mb mean h₀) (F : Fm h₀ L ns vs news h) (l : (x, .type T) ∈ bs)
    (hq : wpAny (Mo w) A (spliced (backTo pos (starEach (e :: as) env))) (fun ws s₁ => wpAny (Mo w) A (call (.type T) ws) Q E s₁) E ⟨h, g, d, tk, os⟩)
    (he : starEach (e :: as) env = (false, eval e env) :: starEach as env := by rfl)
    (hp : (backTo pos (starEach as env)).any (·.1) = false := by rfl) :
    wpAny (Mo w) A (eval (.Call (.Name x p') (e :: as) [] pos) env) Q E ⟨h, g, d, tk, os⟩ :=
  wpAny_Call_NameR (r_blt en I W F l (PyProof.Rows.callWith_type1 hq he hp))
theorem r_sp0 {Q : List Value → Shared → Prop} (hq : Q [] s) : wpAny M A (spliced (backTo pos (starEach [] env))) Q E s := PyProof.Rows.args_nil hq
theorem r_sp {e : Expr} {as : List Expr} {Q : List Value → Shared → Prop} (hq : wpAny M A (eval e env) (fun v s₁ => wpAny M A (spliced (backTo pos (starEach as env))) (fun ws s₂ => Q (v :: ws) s₂) E s₁) E s)
    (he : starEach (e :: as) env = (false, eval e env) :: starEach as env := by rfl) : wpAny M A (spliced (backTo pos (starEach (e :: as) env))) Q E s := PyProof.Rows.args_cons hq he
theorem r_lenb {l : List UInt8} {Q : Value → Shared → Prop} (hl : l.length ≤ 16777216) (hq : Q (.int l.length (tk + 1)) ⟨h, g, d, tk + 2, os⟩) : wpAny (Mo w) A (call (.builtin "len") [.bytes l.toArray t]) Q E ⟨h, g, d, tk, os⟩ :=
  len_bytes (by simp; lia) hq
end
theorem df_check_room (w : World) : Df w 82 "check_room" (fnB (st 7)) (fnS (st 7)) (.ref 81) ["data", "at", "count"] [] ["data", "at", "count"] [("TableFault", (.ref 61))] [("len", .builtin "len")] :=
  Df.of none "check_room" (fnA (st 7)) .none (.str "joinedhand.octets" 272) (by kernel_rfl) (fun s vals X hl => vs3 (P := fun vs => BindsTo s _ ⟨vs, []⟩ (List.zip _ vs)) (fun v0 v1 v2 => BindsTo.of_eq rfl) vals hl) (by kernel_rfl) (Fi.of (by kernel_rfl)) (fun _ => rfl) (fun _ => of_decide_eq_true (by kernel_rfl))
theorem df_number_at (w : World) : Df w 89 "number_at" (fnB (st 8)) (fnS (st 8)) (.ref 88) ["data", "at", "count"] [] ["data", "at", "count", "total", "code"] [("check_room", (.ref 82))] [] :=
  Df.of none "number_at" (fnA (st 8)) .none (.str "joinedhand.octets" 272) (by kernel_rfl) (fun s vals X hl => vs3 (P := fun vs => BindsTo s _ ⟨vs, []⟩ (List.zip _ vs)) (fun v0 v1 v2 => BindsTo.of_eq rfl) vals hl) (by kernel_rfl) (Fi.of (by kernel_rfl)) (fun _ => rfl) (fun _ => of_decide_eq_true (by kernel_rfl))
theorem df_u32_at (w : World) : Df w 96 "u32_at" (fnB (st 9)) (fnS (st 9)) (.ref 95) ["data", "at"] [] ["data", "at"] [("number_at", (.ref 89))] [] :=
  Df.of none "u32_at" (fnA (st 9)) .none (.str "joinedhand.octets" 272) (by kernel_rfl) (fun s vals X hl => vs2 (P := fun vs => BindsTo s _ ⟨vs, []⟩ (List.zip _ vs)) (fun v0 v1 => BindsTo.of_eq rfl) vals hl) (by kernel_rfl) (Fi.of (by kernel_rfl)) (fun _ => rfl) (fun _ => of_decide_eq_true (by kernel_rfl))
theorem df_OctetsIn_init (w : World) : Df w 111 "OctetsIn.__init__" (fnB (mt 10 0)) (fnS (mt 10 0)) (.ref 110) ["self", "data", "at"] [] ["self", "data", "at"] [] [] :=
  Df.of none "__init__" (fnA (mt 10 0)) (.ref 104) (.str "joinedhand.octets" 272) (by kernel_rfl) (fun s vals X hl => vs3 (P := fun vs => BindsTo s _ ⟨vs, []⟩ (List.zip _ vs)) (fun v0 v1 v2 => BindsTo.of_defaults (o := a104 w.params) rfl (X _ _ (by kernel_rfl)) rfl rfl rfl) vals hl) (by kernel_rfl) (Fi.of (by kernel_rfl)) (fun _ => rfl) (fun _ => of_decide_eq_true (by kernel_rfl))
theorem df_OctetsIn_need (w : World) : Df w 118 "OctetsIn.need" (fnB (mt 10 1)) (fnS (mt 10 1)) (.ref 117) ["self", "count"] [] ["self", "count"] [("check_room", (.ref 82))] [] :=
  Df.of none "need" (fnA (mt 10 1)) .none (.str "joinedhand.octets" 272) (by kernel_rfl) (fun s vals X hl => vs2 (P := fun vs => BindsTo s _ ⟨vs, []⟩ (List.zip _ vs)) (fun v0 v1 => BindsTo.of_eq rfl) vals hl) (by kernel_rfl) (Fi.of (by kernel_rfl)) (fun _ => rfl) (fun _ => of_decide_eq_true (by kernel_rfl))
theorem df_OctetsIn_number (w : World) : Df w 125 "OctetsIn.number" (fnB (mt 10 2)) (fnS (mt 10 2)) (.ref 124) ["self", "count"] [] ["self", "count", "found"] [("number_at", (.ref 89))] [] :=
  Df.of none "number" (fnA (mt 10 2)) .none (.str "joinedhand.octets" 272) (by kernel_rfl) (fun s vals X hl => vs2 (P := fun vs => BindsTo s _ ⟨vs, []⟩ (List.zip _ vs)) (fun v0 v1 => BindsTo.of_eq rfl) vals hl) (by kernel_rfl) (Fi.of (by kernel_rfl)) (fun _ => rfl) (fun _ => of_decide_eq_true (by kernel_rfl))
theorem df_OctetsIn_u16 (w : World) : Df w 139 "OctetsIn.u16" (fnB (mt 10 4)) (fnS (mt 10 4)) (.ref 138) ["self"] [] ["self"] [] [] :=
  Df.of none "u16" (fnA (mt 10 4)) .none (.str "joinedhand.octets" 272) (by kernel_rfl) (fun s vals X hl => vs1 (P := fun vs => BindsTo s _ ⟨vs, []⟩ (List.zip _ vs)) (fun v0 => BindsTo.of_eq rfl) vals hl) (by kernel_rfl) (Fi.of (by kernel_rfl)) (fun _ => rfl) (fun _ => of_decide_eq_true (by kernel_rfl))
theorem df_OctetsIn_u32 (w : World) : Df w 160 "OctetsIn.u32" (fnB (mt 10 7)) (fnS (mt 10 7)) (.ref 159) ["self"] [] ["self"] [] [] :=
  Df.of none "u32" (fnA (mt 10 7)) .none (.str "joinedhand.octets" 272) (by kernel_rfl) (fun s vals X hl => vs1 (P := fun vs => BindsTo s _ ⟨vs, []⟩ (List.zip _ vs)) (fun v0 => BindsTo.of_eq rfl) vals hl) (by kernel_rfl) (Fi.of (by kernel_rfl)) (fun _ => rfl) (fun _ => of_decide_eq_true (by kernel_rfl))
theorem df_OctetsIn_tag (w : World) : Df w 165 "OctetsIn.tag" (fnB (mt 10 8)) (fnS (mt 10 8)) (.ref 164) ["self"] [] ["self", "codes"] [] [] :=
  Df.of none "tag" (fnA (mt 10 8)) .none (.str "joinedhand.octets" 272) (by kernel_rfl) (fun s vals X hl => vs1 (P := fun vs => BindsTo s _ ⟨vs, []⟩ (List.zip _ vs)) (fun v0 => BindsTo.of_eq rfl) vals hl) (by kernel_rfl) (Fi.of (by kernel_rfl)) (fun _ => rfl) (fun _ => of_decide_eq_true (by kernel_rfl))
theorem df_number_octets (w : World) : Df w 189 "number_octets" (fnB (st 11)) (fnS (st 11)) (.ref 188) ["number", "count"] ["number"] ["count"] [("TableFault", (.ref 61))] [("str", .type "str"), ("bytes", .type "bytes"), ("range", .type "range")] :=
  Df.of none "number_octets" (fnA (st 11)) .none (.str "joinedhand.octets" 272) (by kernel_rfl) (fun s vals X hl => vs2 (P := fun vs => BindsTo s _ ⟨vs, []⟩ (List.zip _ vs)) (fun v0 v1 => BindsTo.of_eq rfl) vals hl) (by kernel_rfl) (Fi.of (by kernel_rfl)) ((fun h => by cases h)) ((fun h => by cases h))
theorem df_OctetsOut_init (w : World) : Df w 203 "OctetsOut.__init__" (fnB (mt 12 0)) (fnS (mt 12 0)) (.ref 202) ["self"] [] ["self"] [] [("bytearray", .type "bytearray")] :=
  Df.of none "__init__" (fnA (mt 12 0)) .none (.str "joinedhand.octets" 272) (by kernel_rfl) (fun s vals X hl => vs1 (P := fun vs => BindsTo s _ ⟨vs, []⟩ (List.zip _ vs)) (fun v0 => BindsTo.of_eq rfl) vals hl) (by kernel_rfl) (Fi.of (by kernel_rfl)) (fun _ => rfl) (fun _ => of_decide_eq_true (by kernel_rfl))
theorem df_OctetsOut_u16 (w : World) : Df w 217 "OctetsOut.u16" (fnB (mt 12 2)) (fnS (mt 12 2)) (.ref 216) ["self", "number"] [] ["self", "number"] [("number_octets", (.ref 189))] [] :=
  Df.of none "u16" (fnA (mt 12 2)) .none (.str "joinedhand.octets" 272) (by kernel_rfl) (fun s vals X hl => vs2 (P := fun vs => BindsTo s _ ⟨vs, []⟩ (List.zip _ vs)) (fun v0 v1 => BindsTo.of_eq rfl) vals hl) (by kernel_rfl) (Fi.of (by kernel_rfl)) (fun _ => rfl) (fun _ => of_decide_eq_true (by kernel_rfl))
theorem df_OctetsOut_u32 (w : World) : Df w 238 "OctetsOut.u32" (fnB (mt 12 5)) (fnS (mt 12 5)) (.ref 237) ["self", "number"] [] ["self", "number"] [("number_octets", (.ref 189))] [] :=
  Df.of none "u32" (fnA (mt 12 5)) .none (.str "joinedhand.octets" 272) (by kernel_rfl) (fun s vals X hl => vs2 (P := fun vs => BindsTo s _ ⟨vs, []⟩ (List.zip _ vs)) (fun v0 v1 => BindsTo.of_eq rfl) vals hl) (by kernel_rfl) (Fi.of (by kernel_rfl)) (fun _ => rfl) (fun _ => of_decide_eq_true (by kernel_rfl))
theorem df_OctetsOut_tag (w : World) : Df w 243 "OctetsOut.tag" (fnB (mt 12 6)) (fnS (mt 12 6)) (.ref 242) ["self", "text"] [] ["self", "text"] [("TableFault", (.ref 61))] [("len", .builtin "len"), ("bytes", .type "bytes")] :=
  Df.of none "tag" (fnA (mt 12 6)) .none (.str "joinedhand.octets" 272) (by kernel_rfl) (fun s vals X hl => vs2 (P := fun vs => BindsTo s _ ⟨vs, []⟩ (List.zip _ vs)) (fun v0 v1 => BindsTo.of_eq rfl) vals hl) (by kernel_rfl) (Fi.of (by kernel_rfl)) (fun _ => rfl) (fun _ => of_decide_eq_true (by kernel_rfl))
theorem df_OctetsOut_rows (w : World) : Df w 248 "OctetsOut.rows" (fnB (mt 12 7)) (fnS (mt 12 7)) (.ref 247) ["self", "numbers"] [] ["self", "numbers"] [] [] :=
  Df.of none "rows" (fnA (mt 12 7)) .none (.str "joinedhand.octets" 272) (by kernel_rfl) (fun s vals X hl => vs2 (P := fun vs => BindsTo s _ ⟨vs, []⟩ (List.zip _ vs)) (fun v0 v1 => BindsTo.of_eq rfl) vals hl) (by kernel_rfl) (Fi.of (by kernel_rfl)) (fun _ => rfl) (fun _ => of_decide_eq_true (by kernel_rfl))
theorem df_OctetsOut_octets (w : World) : Df w 269 "OctetsOut.octets" (fnB (mt 12 10)) (fnS (mt 12 10)) (.ref 268) ["self"] [] ["self"] [] [("bytes", .type "bytes")] :=
  Df.of none "octets" (fnA (mt 12 10)) .none (.str "joinedhand.octets" 272) (by kernel_rfl) (fun s vals X hl => vs1 (P := fun vs => BindsTo s _ ⟨vs, []⟩ (List.zip _ vs)) (fun v0 => BindsTo.of_eq rfl) vals hl) (by kernel_rfl) (Fi.of (by kernel_rfl)) (fun _ => rfl) (fun _ => of_decide_eq_true (by kernel_rfl))
theorem df_checksum (w : World) : Df w 283 "checksum" (fnB (st 13)) (fnS (st 13)) (.ref 282) ["octets"] [] ["octets", "filled", "total", "at"] [("number_at", (.ref 89))] [("bytes", .type "bytes"), ("len", .builtin "len"), ("range", .type "range")] :=
  Df.of none "checksum" (fnA (st 13)) .none (.str "joinedhand.octets" 272) (by kernel_rfl) (fun s vals X hl => vs1 (P := fun vs => BindsTo s _ ⟨vs, []⟩ (List.zip _ vs)) (fun v0 => BindsTo.of_eq rfl) vals hl) (by kernel_rfl) (Fi.of (by kernel_rfl)) (fun _ => rfl) (fun _ => of_decide_eq_true (by kernel_rfl))
theorem df_Record_init (w : World) : Df w 298 "Record.__init__" (fnB (mt 24 0)) (fnS (mt 24 0)) (.ref 297) ["self", "tag", "total", "begin", "length", "where"] [] ["self", "tag", "total", "begin", "length", "where"] [] [] :=
  Df.of none "__init__" (fnA (mt 24 0)) .none (.str "joinedhand.sfnt" 524) (by kernel_rfl) (fun s vals X hl => vs6 (P := fun vs => BindsTo s _ ⟨vs, []⟩ (List.zip _ vs)) (fun v0 v1 v2 v3 v4 v5 => BindsTo.of_eq rfl) vals hl) (by kernel_rfl) (Fi.of (by kernel_rfl)) (fun _ => rfl) (fun _ => of_decide_eq_true (by kernel_rfl))
theorem df_Record_end (w : World) : Df w 305 "Record.end" (fnB (mt 24 1)) (fnS (mt 24 1)) (.ref 304) ["self"] [] ["self"] [] [] :=
  Df.of none "end" (fnA (mt 24 1)) .none (.str "joinedhand.sfnt" 524) (by kernel_rfl) (fun s vals X hl => vs1 (P := fun vs => BindsTo s _ ⟨vs, []⟩ (List.zip _ vs)) (fun v0 => BindsTo.of_eq rfl) vals hl) (by kernel_rfl) (Fi.of (by kernel_rfl)) (fun _ => rfl) (fun _ => of_decide_eq_true (by kernel_rfl))
theorem df_directory_size (w : World) : Df w 319 "directory_size" (fnB (st 25)) (fnS (st 25)) (.ref 318) ["count"] [] ["count"] [("HEADER_SIZE", (.int (12) 533)), ("RECORD_SIZE", (.int (16) 535))] [] :=
  Df.of none "directory_size" (fnA (st 25)) .none (.str "joinedhand.sfnt" 524) (by kernel_rfl) (fun s vals X hl => vs1 (P := fun vs => BindsTo s _ ⟨vs, []⟩ (List.zip _ vs)) (fun v0 => BindsTo.of_eq rfl) vals hl) (by kernel_rfl) (Fi.of (by kernel_rfl)) (fun _ => rfl) (fun _ => of_decide_eq_true (by kernel_rfl))
theorem df_read_record (w : World) : Df w 326 "read_record" (fnB (st 26)) (fnS (st 26)) (.ref 325) ["data", "where"] [] ["data", "where", "reader", "tag", "total", "begin"] [("OctetsIn", (.ref 180)), ("Record", (.ref 308))] [] :=
  Df.of none "read_record" (fnA (st 26)) .none (.str "joinedhand.sfnt" 524) (by kernel_rfl) (fun s vals X hl => vs2 (P := fun vs => BindsTo s _ ⟨vs, []⟩ (List.zip _ vs)) (fun v0 v1 => BindsTo.of_eq rfl) vals hl) (by kernel_rfl) (Fi.of (by kernel_rfl)) (fun _ => rfl) (fun _ => of_decide_eq_true (by kernel_rfl))
theorem df_need_in_order (w : World) : Df w 333 "need_in_order" (fnB (st 27)) (fnS (st 27)) (.ref 332) ["records", "size"] [] ["records", "size", "at", "one"] [("FontFault", (.ref 73))] [("range", .type "range"), ("len", .builtin "len")] :=
  Df.of none "need_in_order" (fnA (st 27)) .none (.str "joinedhand.sfnt" 524) (by kernel_rfl) (fun s vals X hl => vs2 (P := fun vs => BindsTo s _ ⟨vs, []⟩ (List.zip _ vs)) (fun v0 v1 => BindsTo.of_eq rfl) vals hl) (by kernel_rfl) (Fi.of (by kernel_rfl)) (fun _ => rfl) (fun _ => of_decide_eq_true (by kernel_rfl))
theorem df_need_apart (w : World) : Df w 338 "need_apart" (fnB (st 28)) (fnS (st 28)) (.ref 337) ["records", "begun", "behind"] [] ["records", "begun", "behind", "line", "at"] [("FontFault", (.ref 73))] [("sorted", .builtin "sorted"), ("range", .type "range"), ("len", .builtin "len")] :=
  Df.of none "need_apart" (fnA (st 28)) .none (.str "joinedhand.sfnt" 524) (by kernel_rfl) (fun s vals X hl => vs3 (P := fun vs => BindsTo s _ ⟨vs, []⟩ (List.zip _ vs)) (fun v0 v1 v2 => BindsTo.of_eq rfl) vals hl) (by kernel_rfl) (Fi.of (by kernel_rfl)) (fun _ => rfl) (fun _ => of_decide_eq_true (by kernel_rfl))
theorem df_read_records (w : World) : Df w 343 "read_records" (fnB (st 29)) (fnS (st 29)) (.ref 342) ["data", "begun"] ["data"] ["begun", "version", "count", "behind", "records"] [("HEADER_SIZE", (.int (12) 533)), ("FontFault", (.ref 73)), ("u32_at", (.ref 96)), ("VERSIONS", (.ref 284)), ("OctetsIn", (.ref 180)), ("directory_size", (.ref 319)), ("RECORD_SIZE", (.int (16) 535)), ("need_in_order", (.ref 333)), ("need_apart", (.ref 338))] [("len", .builtin "len"), ("range", .type "range")] :=
  Df.of none "read_records" (fnA (st 29)) .none (.str "joinedhand.sfnt" 524) (by kernel_rfl) (fun s vals X hl => vs2 (P := fun vs => BindsTo s _ ⟨vs, []⟩ (List.zip _ vs)) (fun v0 v1 => BindsTo.of_eq rfl) vals hl) (by kernel_rfl) (Fi.of (by kernel_rfl)) ((fun h => by cases h)) ((fun h => by cases h))
theorem df_tables_of (w : World) : Df w 348 "tables_of" (fnB (st 30)) (fnS (st 30)) (.ref 347) ["data", "records"] ["data"] ["records"] [] [("dict", .type "dict")] :=
  Df.of none "tables_of" (fnA (st 30)) .none (.str "joinedhand.sfnt" 524) (by kernel_rfl) (fun s vals X hl => vs2 (P := fun vs => BindsTo s _ ⟨vs, []⟩ (List.zip _ vs)) (fun v0 v1 => BindsTo.of_eq rfl) vals hl) (by kernel_rfl) (Fi.of (by kernel_rfl)) ((fun h => by cases h)) ((fun h => by cases h))
theorem df_read_directory (w : World) : Df w 355 "read_directory" (fnB (st 31)) (fnS (st 31)) (.ref 354) ["data"] [] ["data", "version", "records"] [("read_records", (.ref 343)), ("tables_of", (.ref 348))] [] :=
  Df.of none "read_directory" (fnA (st 31)) .none (.str "joinedhand.sfnt" 524) (by kernel_rfl) (fun s vals X hl => vs1 (P := fun vs => BindsTo s _ ⟨vs, []⟩ (List.zip _ vs)) (fun v0 => BindsTo.of_eq rfl) vals hl) (by kernel_rfl) (Fi.of (by kernel_rfl)) (fun _ => rfl) (fun _ => of_decide_eq_true (by kernel_rfl))
theorem df_has_adjustment (w : World) : Df w 362 "has_adjustment" (fnB (st 32)) (fnS (st 32)) (.ref 361) ["tag", "octets"] [] ["tag", "octets"] [("ADJUSTMENT", (.int (8) 539))] [("len", .builtin "len")] :=
  Df.of none "has_adjustment" (fnA (st 32)) .none (.str "joinedhand.sfnt" 524) (by kernel_rfl) (fun s vals X hl => vs2 (P := fun vs => BindsTo s _ ⟨vs, []⟩ (List.zip _ vs)) (fun v0 v1 => BindsTo.of_eq rfl) vals hl) (by kernel_rfl) (Fi.of (by kernel_rfl)) (fun _ => rfl) (fun _ => of_decide_eq_true (by kernel_rfl))
theorem df_unadjusted (w : World) : Df w 369 "unadjusted" (fnB (st 33)) (fnS (st 33)) (.ref 368) ["tag", "octets"] [] ["tag", "octets"] [("has_adjustment", (.ref 362)), ("ADJUSTMENT", (.int (8) 539))] [("bytes", .type "bytes")] :=
  Df.of none "unadjusted" (fnA (st 33)) .none (.str "joinedhand.sfnt" 524) (by kernel_rfl) (fun s vals X hl => vs2 (P := fun vs => BindsTo s _ ⟨vs, []⟩ (List.zip _ vs)) (fun v0 v1 => BindsTo.of_eq rfl) vals hl) (by kernel_rfl) (Fi.of (by kernel_rfl)) (fun _ => rfl) (fun _ => of_decide_eq_true (by kernel_rfl))
theorem df_table_sum (w : World) : Df w 376 "table_sum" (fnB (st 34)) (fnS (st 34)) (.ref 375) ["tag", "octets"] [] ["tag", "octets"] [("checksum", (.ref 283)), ("unadjusted", (.ref 369))] [] :=
  Df.of none "table_sum" (fnA (st 34)) .none (.str "joinedhand.sfnt" 524) (by kernel_rfl) (fun s vals X hl => vs2 (P := fun vs => BindsTo s _ ⟨vs, []⟩ (List.zip _ vs)) (fun v0 v1 => BindsTo.of_eq rfl) vals hl) (by kernel_rfl) (Fi.of (by kernel_rfl)) (fun _ => rfl) (fun _ => of_decide_eq_true (by kernel_rfl))
theorem df_check_sums (w : World) : Df w 381 "check_sums" (fnB (st 35)) (fnS (st 35)) (.ref 380) ["data"] ["data"] ["version", "records"] [("read_records", (.ref 343))] [] :=
  Df.of none "check_sums" (fnA (st 35)) .none (.str "joinedhand.sfnt" 524) (by kernel_rfl) (fun s vals X hl => vs1 (P := fun vs => BindsTo s _ ⟨vs, []⟩ (List.zip _ vs)) (fun v0 => BindsTo.of_eq rfl) vals hl) (by kernel_rfl) (Fi.of (by kernel_rfl)) ((fun h => by cases h)) ((fun h => by cases h))
theorem df_search_numbers (w : World) : Df w 388 "search_numbers" (fnB (st 36)) (fnS (st 36)) (.ref 387) ["count"] [] ["count", "power", "steps"] [("RECORD_SIZE", (.int (16) 535))] [] :=
  Df.of none "search_numbers" (fnA (st 36)) .none (.str "joinedhand.sfnt" 524) (by kernel_rfl) (fun s vals X hl => vs1 (P := fun vs => BindsTo s _ ⟨vs, []⟩ (List.zip _ vs)) (fun v0 => BindsTo.of_eq rfl) vals hl) (by kernel_rfl) (Fi.of (by kernel_rfl)) (fun _ => rfl) (fun _ => of_decide_eq_true (by kernel_rfl))
theorem df_to_fours (w : World) : Df w 395 "to_fours" (fnB (st 37)) (fnS (st 37)) (.ref 394) ["octets"] [] ["octets"] [] [("bytes", .type "bytes"), ("len", .builtin "len")] :=
  Df.of none "to_fours" (fnA (st 37)) .none (.str "joinedhand.sfnt" 524) (by kernel_rfl) (fun s vals X hl => vs1 (P := fun vs => BindsTo s _ ⟨vs, []⟩ (List.zip _ vs)) (fun v0 => BindsTo.of_eq rfl) vals hl) (by kernel_rfl) (Fi.of (by kernel_rfl)) (fun _ => rfl) (fun _ => of_decide_eq_true (by kernel_rfl))
theorem df_need_tables (w : World) : Df w 402 "need_tables" (fnB (st 38)) (fnS (st 38)) (.ref 401) ["version", "tables"] [] ["version", "tables", "tag"] [("VERSIONS", (.ref 284)), ("FontFault", (.ref 73)), ("MOST_TABLES", (.int (4095) 541))] [("len", .builtin "len"), ("min", .builtin "min"), ("max", .builtin "max")] :=
  Df.of none "need_tables" (fnA (st 38)) .none (.str "joinedhand.sfnt" 524) (by kernel_rfl) (fun s vals X hl => vs2 (P := fun vs => BindsTo s _ ⟨vs, []⟩ (List.zip _ vs)) (fun v0 v1 => BindsTo.of_eq rfl) vals hl) (by kernel_rfl) (Fi.of (by kernel_rfl)) (fun _ => rfl) (fun _ => of_decide_eq_true (by kernel_rfl))
theorem df_directory_octets (w : World) : Df w 409 "directory_octets" (fnB (st 39)) (fnS (st 39)) (.ref 408) ["version", "records"] [] ["version", "records", "out", "one"] [("OctetsOut", (.ref 272)), ("search_numbers", (.ref 388))] [("len", .builtin "len")] :=
  Df.of none "directory_octets" (fnA (st 39)) .none (.str "joinedhand.sfnt" 524) (by kernel_rfl) (fun s vals X hl => vs2 (P := fun vs => BindsTo s _ ⟨vs, []⟩ (List.zip _ vs)) (fun v0 v1 => BindsTo.of_eq rfl) vals hl) (by kernel_rfl) (Fi.of (by kernel_rfl)) (fun _ => rfl) (fun _ => of_decide_eq_true (by kernel_rfl))
theorem df_with_adjustment (w : World) : Df w 416 "with_adjustment" (fnB (st 40)) (fnS (st 40)) (.ref 415) ["data", "spot"] [] ["data", "spot", "out"] [("OctetsOut", (.ref 272)), ("MAGIC_SUM", (.int (2981146554) 537)), ("checksum", (.ref 283))] [] :=
  Df.of none "with_adjustment" (fnA (st 40)) .none (.str "joinedhand.sfnt" 524) (by kernel_rfl) (fun s vals X hl => vs2 (P := fun vs => BindsTo s _ ⟨vs, []⟩ (List.zip _ vs)) (fun v0 v1 => BindsTo.of_eq rfl) vals hl) (by kernel_rfl) (Fi.of (by kernel_rfl)) (fun _ => rfl) (fun _ => of_decide_eq_true (by kernel_rfl))
theorem df_write_sfnt (w : World) : Df w 423 "write_sfnt" (fnB (st 41)) (fnS (st 41)) (.ref 422) ["version", "tables"] [] ["version", "tables", "records", "parts", "spot", "begin", "tag", "body", "data"] [("need_tables", (.ref 402)), ("directory_size", (.ref 319)), ("unadjusted", (.ref 369)), ("has_adjustment", (.ref 362)), ("ADJUSTMENT", (.int (8) 539)), ("Record", (.ref 308)), ("checksum", (.ref 283)), ("to_fours", (.ref 395)), ("directory_octets", (.ref 409)), ("with_adjustment", (.ref 416))] [("len", .builtin "len"), ("sorted", .builtin "sorted")] :=
  Df.of none "write_sfnt" (fnA (st 41)) .none (.str "joinedhand.sfnt" 524) (by kernel_rfl) (fun s vals X hl => vs2 (P := fun vs => BindsTo s _ ⟨vs, []⟩ (List.zip _ vs)) (fun v0 v1 => BindsTo.of_eq rfl) vals hl) (by kernel_rfl) (Fi.of (by kernel_rfl)) (fun _ => rfl) (fun _ => of_decide_eq_true (by kernel_rfl))
theorem df_Finding_init (w : World) : Df w 446 "Finding.__init__" (fnB (mt 49 0)) (fnS (mt 49 0)) (.ref 445) ["self", "tag", "what", "at"] [] ["self", "tag", "what", "at"] [] [] :=
  Df.of none "__init__" (fnA (mt 49 0)) .none (.str "joinedhand.checker" 747) (by kernel_rfl) (fun s vals X hl => vs4 (P := fun vs => BindsTo s _ ⟨vs, []⟩ (List.zip _ vs)) (fun v0 v1 v2 v3 => BindsTo.of_eq rfl) vals hl) (by kernel_rfl) (Fi.of (by kernel_rfl)) (fun _ => rfl) (fun _ => of_decide_eq_true (by kernel_rfl))
theorem df_Finding_told (w : World) : Df w 453 "Finding.told" (fnB (mt 49 1)) (fnS (mt 49 1)) (.ref 452) ["self"] [] ["self"] [] [] :=
  Df.of none "told" (fnA (mt 49 1)) .none (.str "joinedhand.checker" 747) (by kernel_rfl) (fun s vals X hl => vs1 (P := fun vs => BindsTo s _ ⟨vs, []⟩ (List.zip _ vs)) (fun v0 => BindsTo.of_eq rfl) vals hl) (by kernel_rfl) (Fi.of (by kernel_rfl)) (fun _ => rfl) (fun _ => of_decide_eq_true (by kernel_rfl))
theorem df_tried (w : World) : Df w 563 "tried" (fnB (st 66)) (fnS (st 66)) (.ref 562) ["tag", "tables", "read", "found"] [] ["tag", "tables", "read", "found", "fault"] [("ShapeError", (.ref 48)), ("Finding", (.ref 456))] [] :=
  Df.of none "tried" (fnA (st 66)) .none (.str "joinedhand.checker" 747) (by kernel_rfl) (fun s vals X hl => vs4 (P := fun vs => BindsTo s _ ⟨vs, []⟩ (List.zip _ vs)) (fun v0 v1 v2 v3 => BindsTo.of_eq rfl) vals hl) (by kernel_rfl) (Fi.of (by kernel_rfl)) (fun _ => rfl) (fun _ => of_decide_eq_true (by kernel_rfl))
theorem df_check_tables (w : World) : Df w 568 "check_tables" (fnB (st 67)) (fnS (st 67)) (.ref 567) ["tables", "read"] ["tables"] ["read", "tag", "found", "count", "metrics", "charmap", "gdef", "layout", "pairs"] [("NEEDED", (.ref 431)), ("MOST_GLYPHS", (.int (65536) 759)), ("HEADS", (.ref 432)), ("tried", (.ref 563))] [("len", .builtin "len")] :=
  Df.of none "check_tables" (fnA (st 67)) .none (.str "joinedhand.checker" 747) (by kernel_rfl) (fun s vals X hl => vs2 (P := fun vs => BindsTo s _ ⟨vs, []⟩ (List.zip _ vs)) (fun v0 v1 => BindsTo.of_eq rfl) vals hl) (by kernel_rfl) (Fi.of (by kernel_rfl)) ((fun h => by cases h)) ((fun h => by cases h))
theorem df_check_file (w : World) : Df w 573 "check_file" (fnB (st 68)) (fnS (st 68)) (.ref 572) ["data", "read"] [] ["data", "read", "tables", "fault"] [("read_directory", (.ref 355)), ("ShapeError", (.ref 48)), ("Finding", (.ref 456)), ("check_sums", (.ref 381)), ("check_tables", (.ref 568))] [] :=
  Df.of none "check_file" (fnA (st 68)) .none (.str "joinedhand.checker" 747) (by kernel_rfl) (fun s vals X hl => vs2 (P := fun vs => BindsTo s _ ⟨vs, []⟩ (List.zip _ vs)) (fun v0 v1 => BindsTo.of_eq rfl) vals hl) (by kernel_rfl) (Fi.of (by kernel_rfl)) (fun _ => rfl) (fun _ => of_decide_eq_true (by kernel_rfl))
theorem df__law_draw (w : World) : Df w 580 "_law_draw" (fnB (st 70)) (fnS (st 70)) (.ref 579) ["source", "limit"] [] ["source", "limit", "cells", "at"] [] [("len", .builtin "len")] :=
  Df.of none "_law_draw" (fnA (st 70)) .none (.str "law_pb0201_01" 955) (by kernel_rfl) (fun s vals X hl => vs2 (P := fun vs => BindsTo s _ ⟨vs, []⟩ (List.zip _ vs)) (fun v0 v1 => BindsTo.of_eq rfl) vals hl) (by kernel_rfl) (Fi.of (by kernel_rfl)) (fun _ => rfl) (fun _ => of_decide_eq_true (by kernel_rfl))
theorem df__law_source (w : World) : Df w 585 "_law_source" (fnB (st 71)) (fnS (st 71)) (.ref 584) ["script"] [] ["script", "cells"] [] [] :=
  Df.of none "_law_source" (fnA (st 71)) .none (.str "law_pb0201_01" 955) (by kernel_rfl) (fun s vals X hl => vs1 (P := fun vs => BindsTo s _ ⟨vs, []⟩ (List.zip _ vs)) (fun v0 => BindsTo.of_eq rfl) vals hl) (by kernel_rfl) (Fi.of (by kernel_rfl)) (fun _ => rfl) (fun _ => of_decide_eq_true (by kernel_rfl))
noncomputable def IsCut {α : Type} (Q : α → Shared → Prop) : Prop := True
theorem Cut.done {α : Type} {M : Model} {A : Around} {t : Sem α} {Q : α → Shared → Prop} {E : Value → Shared → Prop} {s : Shared} (c : IsCut Q) (h : wpAny M A t Q E s) : wpAny M A t Q E s := h
theorem wp_cut {α : Type} {M : Model} {A : Around} {t : Sem α} {Q : α → Shared → Prop} {E : Value → Shared → Prop} {s : Shared} (h : let Q' := Q; IsCut Q' → wpAny M A t Q' E s) : wpAny M A t Q E s := h trivial
theorem wp_start {M : Model} {A : Around} {env : Env} {b : List Stmt} {Q : Flow → Shared → Prop} {E : Value → Shared → Prop} {s : Shared} (h : let A' := A; let e' := env; wpAny M A' (execs b e') Q E s) : wpAny M A (execs b env) Q E s := h
inductive Rem {α : Type} (y : α) : List α → List α → Prop
  | head {l : List α} : Rem y (y :: l) l
  | tail {x : α} {l r : List α} : Rem y l r → Rem y (x :: l) (x :: r)
  | app {m l r : List α} : Rem y l r → Rem y (m ++ l) (m ++ r)
theorem Rem.perm {α : Type} {y : α} {l r : List α} (h : Rem y l r) : l.Perm (y :: r) := by
  induction h with
  | head => exact .refl _
  | tail _ ih => exact (ih.cons _).trans (.swap ..)
  | app _ ih => exact (ih.append_left _).trans List.perm_middle
theorem perm_stepR {α : Type} {y : α} {l r l' : List α} (h : Rem y l r) (p : r.Perm l') : l.Perm (y :: l') := h.perm.trans (p.cons y)
theorem perm_stepL {α : Type} {y : α} {l l' r' : List α} (h : Rem y l' r') (p : l.Perm r') : (y :: l).Perm l' := (p.cons y).trans h.perm.symm
noncomputable abbrev lsO (ys : List Value) (ep : Nat) : Obj := { cls := .type "list", data := .seq ys.toArray ep }
section
variable {w : World} {A : Around} {E : Value → Shared → Prop} {h₀ hb h h' : Heap} {g : Array GenState} {d : Drawn} {tk : Nat} {os : OsState} {L C a : Addr} {mg mb : Str → Option Value} {mean : ExcName → Option Value}
  {ns cns : List Str} {vs : List (Option Value)} {cl : List (Str × Addr)} {gs bs : List (Str × Value)} {news : List (Addr × Obj)} {cs : Scope} {x : Str} {pos px : Pos} {v : Value} {env : Env} {o : Obj}
theorem Fm.dropMut (F : Fm h₀ L ns vs ((C, o) :: news) h) (k : Heap.ExtBut C h h') : Fm h₀ L ns vs news h' := by
  refine prop_cut ?_; intro Pcut
  obtain ⟨m, f, l⟩ := F.fr
  try unfold Pcut
  refine prop_cut ?_; intro Pcut
  obtain ⟨oL, es, ep, hL, r⟩ := f.ns
  try unfold Pcut
  have A := F.led (C, o) (by simp)
  have nd := F.nd
  rw [List.map_cons, List.nodup_cons] at nd
  refine ⟨⟨m, ⟨⟨oL, es, ep, k _ _ (Ne.symm A.2.1) hL, r⟩, fun b x e => k _ _ (fun q => ?_) (f.keep b x e), f.above⟩, l⟩, fun p hp => ?_, nd.2⟩
  · rw [q, A.2.2] at e; cases e
  · have P := F.led p (.tail _ hp)
    exact ⟨k _ _ (fun q => nd.1 (List.mem_map.mpr ⟨p, hp, q⟩)) P.1, P.2⟩
theorem Fm.mutH {o' : Obj} (F : Fm h₀ L ns vs ((C, o) :: news) h) (k : Heap.ExtBut C h h') (hc : h'.get? C = some o') : Fm h₀ L ns vs ((C, o') :: news) h' :=
  F.mut (pre := []) (post := news) rfl (fun b x hb e => k b x (by simpa using hb) e) hc
theorem Fm.swap {p q : Addr × Obj} (F : Fm h₀ L ns vs (p :: q :: news) h) : Fm h₀ L ns vs (q :: p :: news) h := F.perm (.swap q p news)
theorem Fm.setLoc {i : Nat} (F : Fm h₀ L ns vs news h) (hn : ns.Nodup) (hi : ns[i]? = some x)
    (hm : ∀ m, h.Ns L m → h'.Ns L (fun y => if y = x then some v else m y)) (hs : Heap.SameBut L h h') : Fm h₀ L ns (vs.set i (some v)) news h' := by
  refine prop_cut ?_; intro Pcut
  obtain ⟨m, f, l⟩ := F.fr
  try unfold Pcut
  refine ⟨⟨_, f.set (hm m f.ns) hs, fun j y z hj hz => ?_⟩, F.led.set hs, F.nd⟩
  by_cases e : i = j
  · subst e
    rw [hi] at hj; cases hj
    rw [List.getElem?_set_self'] at hz
    cases q : vs[i]? with
    | none => rw [q] at hz; cases hz
    | some o => rw [q] at hz; simp at hz; simp [hz]
  · rw [List.getElem?_set_ne e] at hz
    have : y ≠ x := fun q => e (getElem?_inj_of_nodup hn hi (q ▸ hj))
    simp only [this, if_false]
    exact l j y z hj hz
theorem r_stI {Q : Unit → Shared → Prop} {i : Nat} (e : En env L cs cl) (I : Fi cs ns cns gs bs) (F : Fm h₀ L ns vs news h) (hi : ns[i]? = some x) (hq : ∀ h', Fm h₀ L ns (vs.set i (some v)) news h' → Heap.SameBut L h h' → Q () ⟨h', g, d, tk + 1, os⟩) :
    wpAny (Mo w) A (storeName env x v) Q E ⟨h, g, d, tk, os⟩ := by
  refine prop_cut ?_; intro Pcut
  obtain ⟨m, f, _⟩ := F.fr
  try unfold Pcut
  refine wpAny_storeName_local (e.of (I.loc x (List.mem_of_getElem? hi)).1) (by rw [e.lo]; exact f.ns) (fun h' hn hs => ?_) (by rw [e.kind I]; rfl)
  rw [e.lo] at hn hs
  exact hq h' (F.setLoc I.nd hi (fun m' hm' => by
    refine prop_cut ?_; intro Pcut
    obtain ⟨o, es, ep, ho, hd, hk, hf⟩ := hm'
    try unfold Pcut
    refine prop_cut ?_; intro Pcut
    obtain ⟨o2, es2, ep2, ho2, hd2, hk2, hf2⟩ := f.ns
    try unfold Pcut
    rw [ho] at ho2; cases ho2
    rw [hd] at hd2; cases hd2
    have : m' = m := by funext y; rw [← hf y, ← hf2 y]
    rw [this]; exact hn) hs) hs
theorem fp_keep {I : Addr} {fp : List Addr} {J : Nat → Prop} {o₂ : Obj} {news₁ news₃ : List (Addr × Obj)} {vs₁ vs₃ : List (Option Value)} {h₂ h₃ : Heap} {ns' : List Str} {L' : Addr}
    (hfp : ∀ b ∈ fp, b = I ∨ (∃ o, h₀.get? b = some o) ∨ ∃ o, (b, o) ∈ news₁ ∧ (b, o) ∈ news₃)
    (F₂ : Fm h₀ L ns vs₁ ((I, o₂) :: news₁) h₂) (F₃ : Fm h₀ L' ns' vs₃ ((I, o₂) :: news₃) h₃) : ∀ b ∈ fp, ∀ o, h₂.get? b = some o → h₃.get? b = some o := by
  intro b hb o e
  rcases hfp b hb with rfl | ⟨o', e'⟩ | ⟨o', m₁, m₃⟩
  · rw [F₂.get (.head _)] at e; cases e; exact F₃.get (.head _)
  · rw [F₂.keep _ _ e'] at e; cases e; exact F₃.keep _ _ e'
  · rw [F₂.get (.tail _ m₁)] at e; cases e; exact F₃.get (.tail _ m₃)
theorem for_at {I : Addr} {fp : List Addr} {n : Nat} {P : Nat → Value → Prop} {St : Nat → Heap → Prop} {R : Result → Shared → Prop} {body : List Stmt} {oI : Obj} (ix : Nat)
    (en : En env L cs cl) (Y : Fi cs ns cns gs bs) (Wk : Walks pw w A I fp [I] n P St) (hst : ∀ i h, St i h → ∃ o, h.get? I = some o) (J : Nat → List (Option Value) → List (Addr × Obj) → Prop)
    (hfp : ∀ b ∈ fp, b = I ∨ (∃ o, h₀.get? b = some o) ∨ ∃ o, ∀ i vs news, J i vs news → (b, o) ∈ news) (hix : ns[ix]? = some x)
    (F : Fm h₀ L ns vs ((I, oI) :: news) h) (st : St 0 h) (j0 : J 0 vs news)
    (step : ∀ i v vs₁ news₁ h₁ tk₁ oI, i < n → P i v → J i vs₁ news₁ → Fm h₀ L ns (vs₁.set ix (some v)) ((I, oI) :: news₁) h₁ →
      wpAny (Mo w) A (execs body env) (fun f s' => f = .next ∧ ∃ vs₃ news₃ h₃ tk₃, s' = ⟨h₃, g, d, tk₃, os⟩ ∧ Fm h₀ L ns vs₃ ((I, oI) :: news₃) h₃ ∧ J (i + 1) vs₃ news₃) (fun _ _ => False) ⟨h₁, g, d, tk₁, os⟩)
    (done : ∀ vs₁ news₁ h₁ tk₁, J n vs₁ news₁ → Fm h₀ L ns vs₁ news₁ h₁ → R (.ok .next) ⟨h₁, g, d, tk₁, os⟩) :
    codeAny (Mo w) A (.forLoop (.Name x px) (.ref I) body [] env) R ⟨h, g, d, tk, os⟩ := by
  refine codeAny_forLoop (fun k s' => ∃ i vs₁ news₁ h₁ tk₁ oI, s' = ⟨h₁, g, d, tk₁, os⟩ ∧ St i h₁ ∧ Fm h₀ L ns vs₁ ((I, oI) :: news₁) h₁ ∧ J i vs₁ news₁ ∧ i ≤ n ∧ k = n + 1 - i) ?_ (n + 1) ⟨0, vs, news, h, tk, oI, rfl, st, F, j0, Nat.zero_le _, rfl⟩
  intro k s' hJ
  refine prop_cut ?_; intro Pcut
  obtain ⟨i, vs₁, news₁, h₁, tk₁, oI₁, rfl, st₁, F₁, j₁, hi, rfl⟩ := hJ
  try unfold Pcut
  by_cases hlt : i < n
  · refine Wk.item i _ _ _ hlt st₁ fun v h₂ tk₂ pv st₂ k₂ => ?_
    have k₂' : Heap.ExtBut I h₁ h₂ := fun b o hb e => k₂ b o (by simpa using hb) e
    obtain ⟨o₂, ho₂⟩ := hst _ _ st₂
    have F₂ := F₁.mutH k₂' ho₂
    refine wpAny_assign_Name (r_stI en Y F₂ hix fun h₃ F₃ _ => ?_)
    refine wpAny_mono (step i v vs₁ news₁ h₃ (tk₂ + 1) o₂ hlt pv j₁ F₃) (fun f s' q => ?_) fun _ _ q => q.elim
    refine prop_cut ?_; intro Pcut
    obtain ⟨rfl, vs₃, news₃, h₄, tk₄, rfl, F₄, j₄⟩ := q
    try unfold Pcut
    refine ⟨n + 1 - (i + 1), by lia, i + 1, vs₃, news₃, h₄, tk₄, o₂, rfl, ?_, F₄, j₄, hlt, rfl⟩
    refine Wk.frame _ _ _ st₂ (fp_keep (J := fun _ => True) (fun b hb => ?_) F₂ F₄)
    rcases hfp b hb with q | q | ⟨o, q⟩
    · exact .inl q
    · exact .inr (.inl q)
    · exact .inr (.inr ⟨o, q _ _ _ j₁, q _ _ _ j₄⟩)
  · obtain rfl : i = n := by lia
    refine Wk.done _ _ _ st₁ fun h₂ tk₂ k₂ => ?_
    have k₂' : Heap.ExtBut I h₁ h₂ := fun b o hb e => k₂ b o (by simpa using hb) e
    exact wpAny_execs_nil (done vs₁ news₁ h₂ tk₂ j₁ (F₁.dropMut k₂'))
theorem comp_loop {I D : Addr} {fp : List Addr} {n : Nat} {P : Nat → Value → Prop} {St : Nat → Heap → Prop} {R : Result → Shared → Prop} {elt iter : Expr} {ifs : List Expr} {scope : Scope} {oI : Obj} (ix : Nat)
    (en : En env C cs cl) (Y : Fi cs ns cns gs bs) (Wk : Walks pw w A I fp [I] n P St) (hst : ∀ i h, St i h → ∃ o, h.get? I = some o) (J : Nat → List Value → List (Addr × Obj) → Prop)
    (hfp : ∀ b ∈ fp, b = I ∨ (∃ o, h₀.get? b = some o) ∨ ∃ o, ∀ i ys news, J i ys news → (b, o) ∈ news) (hix : ns[ix]? = some x) (hn : n ≤ sizeLine)
    (F : Fm h₀ C ns vs ((I, oI) :: (D, lsO [] 0) :: news) h) (st : St 0 h) (j0 : J 0 [] news)
    (step : ∀ i v ys news₁ h₁ tk₁ oI ep, i < n → P i v → J i ys news₁ → Fm h₀ C ns ((List.replicate ns.length none).set ix (some v)) ((I, oI) :: (D, lsO ys ep) :: news₁) h₁ →
      wpAny (Mo w) A (forIn ifs true fun c r => if r = true then do let ok ← isTrue c env (eval c env); pure (ForInStep.yield ok) else pure (ForInStep.yield r))
        (fun ok s₃ => if ok = true then wpAny (Mo w) A (eval elt env) (fun y s' => ∃ vs₃ news₃ h₃ tk₃, s' = ⟨h₃, g, d, tk₃, os⟩ ∧ Fm h₀ C ns vs₃ ((I, oI) :: (D, lsO ys ep) :: news₃) h₃ ∧ J (i + 1) (ys ++ [y]) news₃) (fun _ _ => False) s₃
          else ∃ vs₃ news₃ h₃ tk₃, s₃ = ⟨h₃, g, d, tk₃, os⟩ ∧ Fm h₀ C ns vs₃ ((I, oI) :: (D, lsO ys ep) :: news₃) h₃ ∧ J (i + 1) ys news₃) (fun _ _ => False) ⟨h₁, g, d, tk₁, os⟩)
    (done : ∀ ys vs₁ news₁ h₁ tk₁ ep, J n ys news₁ → Fm h₀ C ns vs₁ ((D, lsO ys ep) :: news₁) h₁ → R (.ok .next) ⟨h₁, g, d, tk₁, os⟩) :
    codeAny (Mo w) A (.compLoop (.ListComp elt [⟨.Name x px, iter, ifs, 0⟩] scope pos) 0 (.ref I) (.ref D) env) R ⟨h, g, d, tk, os⟩ := by
  refine codeAny_compLoop_tests (fun k s' => ∃ i ys vs₁ news₁ h₁ tk₁ oI ep, s' = ⟨h₁, g, d, tk₁, os⟩ ∧ St i h₁ ∧ Fm h₀ C ns vs₁ ((I, oI) :: (D, lsO ys ep) :: news₁) h₁ ∧ J i ys news₁ ∧ ys.length ≤ i ∧ i ≤ n ∧ k = n + 1 - i) ?_ (n + 1)
    ⟨0, [], vs, news, h, tk, oI, 0, rfl, st, F, j0, Nat.le_refl _, Nat.zero_le _, rfl⟩
  intro k s' hJ
  refine prop_cut ?_; intro Pcut
  obtain ⟨i, ys, vs₁, news₁, h₁, tk₁, oI₁, ep, rfl, st₁, F₁, j₁, hy, hi, rfl⟩ := hJ
  try unfold Pcut
  by_cases hlt : i < n
  · refine Wk.item i _ _ _ hlt st₁ fun v h₂ tk₂ pv st₂ k₂ => ?_
    have k₂' : Heap.ExtBut I h₁ h₂ := fun b o hb e => k₂ b o (by simpa using hb) e
    obtain ⟨o₂, ho₂⟩ := hst _ _ st₂
    have F₂ := (F₁.mutH k₂' ho₂).weak (vs' := List.replicate ns.length none) (fun q v e => by
      obtain ⟨_, e⟩ := List.getElem?_eq_some_iff.mp e
      simp at e)
    refine wpAny_assign_Name (r_stI en Y F₂ hix fun h₃ F₃ _ => ?_)
    have stay : ∀ {ys' : List Value} {vs₃ news₃ h₃ ep'}, Fm h₀ C ns vs₃ ((I, o₂) :: (D, lsO ys' ep') :: news₃) h₃ → J (i + 1) ys' news₃ → St (i + 1) h₃ := fun F₄ j₄ => by
      refine Wk.frame _ _ _ st₂ (fp_keep (J := fun _ => True) (fun b hb => ?_) (F₂.swap.drop (.cons _ (.refl _))) (F₄.swap.drop (.cons _ (.refl _))))
      rcases hfp b hb with q | q | ⟨o, q⟩
      · exact .inl q
      · exact .inr (.inl q)
      · exact .inr (.inr ⟨o, q _ _ _ j₁, q _ _ _ j₄⟩)
    refine wpAny_mono (step i v ys news₁ h₃ (tk₂ + 1) o₂ ep hlt pv j₁ F₃) (fun ok s₃ q => ?_) fun _ _ q => q.elim
    cases ok with
    | false =>
      rw [if_neg Bool.false_ne_true] at q ⊢
      refine prop_cut ?_; intro Pcut
      obtain ⟨vs₃, news₃, h₄, tk₄, rfl, F₄, j₄⟩ := q
      try unfold Pcut
      exact ⟨n + 1 - (i + 1), by lia, i + 1, ys, vs₃, news₃, h₄, tk₄, o₂, ep, rfl, stay F₄ j₄, F₄, j₄, by lia, hlt, rfl⟩
    | true =>
      rw [if_pos rfl] at q ⊢
      refine wpAny_mono q (fun y s₄ q => ?_) fun _ _ q => q.elim
      refine prop_cut ?_; intro Pcut
      obtain ⟨vs₃, news₃, h₄, tk₄, rfl, F₄, j₄⟩ := q
      try unfold Pcut
      have hD := F₄.get (a := D) (o := lsO ys ep) (.tail _ (.head _))
      refine wpAny_list_append_plain (hsz := by simp; lia) ⟨ep, hD⟩ fun h₅ hp₅ hs₅ => ?_
      obtain ⟨ep', hp₅⟩ := hp₅
      have F₅ : Fm h₀ C ns vs₃ ((I, o₂) :: (D, lsO (ys ++ [y]) ep') :: news₃) h₅ := by
        have e : (ys.toArray.push y) = (ys ++ [y]).toArray := by simp
        rw [e] at hp₅
        exact (F₄.swap.mutH hs₅.extBut hp₅).swap
      exact ⟨n + 1 - (i + 1), by lia, i + 1, ys ++ [y], vs₃, news₃, h₅, tk₄, o₂, ep', rfl, stay F₅ j₄, F₅, j₄, by simp; lia, hlt, rfl⟩
  · obtain rfl : i = n := by lia
    refine Wk.done _ _ _ st₁ fun h₂ tk₂ k₂ => ?_
    have k₂' : Heap.ExtBut I h₁ h₂ := fun b o hb e => k₂ b o (by simpa using hb) e
    exact done ys vs₁ news₁ h₂ tk₂ ep j₁ (F₁.dropMut k₂')
theorem Fm.back {ns' : List Str} {vs' : List (Option Value)} {news₁ : List (Addr × Obj)} {h₁ : Heap} (F : Fm h₀ L ns vs news h) (k : Ext h₀ hb) (hL : ∀ o, h.get? L = some o → hb.get? L = some o) (G : Fm hb C ns' vs' news₁ h₁) (hC : hb.get? C = none) :
    ∃ oC, Fm h₀ L ns vs ((C, oC) :: news₁) h₁ := by
  refine prop_cut ?_; intro Pcut
  obtain ⟨m, f, l⟩ := F.fr
  try unfold Pcut
  refine prop_cut ?_; intro Pcut
  obtain ⟨oL, es, ep, eL, r⟩ := f.ns
  try unfold Pcut
  have eb := hL _ eL
  refine prop_cut ?_; intro Pcut
  obtain ⟨m', f', _⟩ := G.fr
  try unfold Pcut
  refine prop_cut ?_; intro Pcut
  obtain ⟨oC, _, _, eC, _⟩ := f'.ns
  try unfold Pcut
  refine ⟨oC, ⟨m, ⟨⟨oL, es, ep, G.keep _ _ eb, r⟩, fun b o e => G.keep _ _ (k _ _ e), f.above⟩, l⟩, fun p hp => ?_, ?_⟩
  · rcases List.mem_cons.mp hp with rfl | hp
    · refine ⟨eC, fun q => ?_, ?_⟩
      · rw [show C = L from q, eb] at hC; cases hC
      · cases z : h₀.get? C with
        | none => rfl
        | some o => rw [k _ _ z] at hC; cases hC
    · have P := G.led p hp
      refine ⟨P.1, fun q => ?_, ?_⟩
      · have := P.2.2; rw [q, eb] at this; cases this
      · cases z : h₀.get? p.1 with
        | none => rfl
        | some o => have := P.2.2; rw [k _ _ z] at this; cases this
  · rw [List.map_cons, List.nodup_cons]
    exact ⟨fun q => by obtain ⟨p, hp, e⟩ := List.mem_map.mp q; exact (G.led p hp).2.1 e, G.nd⟩
theorem comp_at {I : Addr} {fp : List Addr} {n : Nat} {P : Nat → Value → Prop} {St : Nat → Heap → Prop} {RR : Value → Addr → Result → Shared → Prop} {elt iter : Expr} {ifs : List Expr} {scope : Scope} {oI : Obj}
    {csC : Scope} {nsC cnsC : List Str} {gsC bsC : List (Str × Value)} {clo : List (Str × Addr)} (ix : Nat)
    (en : En env L cs cl) (hcs : csC = relabel scope env) (Y : Fi csC nsC cnsC gsC bsC) (hcell : ∀ y ∈ scope.names, y.2 ≠ .cell) (hkind : scope.kind = .function)
    (Wk : Walks pw w A I fp [I] n P St) (hst : ∀ i h, St i h → ∃ o, h.get? I = some o) (J : Nat → List Value → List (Addr × Obj) → Prop)
    (hfp : ∀ b ∈ fp, b = I ∨ ((∃ o, h.get? b = some o) ∧ b ∉ I :: news.map (·.1)) ∨ ∃ o, ∀ i ys news, J i ys news → (b, o) ∈ news) (hix : nsC[ix]? = some x) (hn : n ≤ sizeLine)
    (W : Wd w mg mb mean h₀) (F : Fm h₀ L ns vs ((I, oI) :: news) h) (st : St 0 h) (j0 : J 0 [] news)
    (step : ∀ hb C D i v ys news₁ h₁ tk₁ oI ep, Wd w mg mb mean hb → (∀ b o, b ∉ I :: news.map (·.1) → h.get? b = some o → hb.get? b = some o) → i < n → P i v → J i ys news₁ →
      Fm hb C nsC ((List.replicate nsC.length none).set ix (some v)) ((I, oI) :: (D, lsO ys ep) :: news₁) h₁ →
      wpAny (Mo w) A (forIn ifs true fun c r => if r = true then do let ok ← isTrue c (compEnvC scope clo C env) (eval c (compEnvC scope clo C env)); pure (ForInStep.yield ok) else pure (ForInStep.yield r))
        (fun ok s₃ => if ok = true then wpAny (Mo w) A (eval elt (compEnvC scope clo C env)) (fun y s' => ∃ vs₃ news₃ h₃ tk₃, s' = ⟨h₃, g, d, tk₃, os⟩ ∧ Fm hb C nsC vs₃ ((I, oI) :: (D, lsO ys ep) :: news₃) h₃ ∧ J (i + 1) (ys ++ [y]) news₃) (fun _ _ => False) s₃
          else ∃ vs₃ news₃ h₃ tk₃, s₃ = ⟨h₃, g, d, tk₃, os⟩ ∧ Fm hb C nsC vs₃ ((I, oI) :: (D, lsO ys ep) :: news₃) h₃ ∧ J (i + 1) ys news₃) (fun _ _ => False) ⟨h₁, g, d, tk₁, os⟩)
    (done : ∀ C D oC ys news₁ h₁ tk₁ ep m, J n ys news₁ → h₁.Ns C m → Fm h₀ L ns vs ((C, oC) :: (D, lsO ys ep) :: news₁) h₁ → RR (.ref D) C (.ok .next) ⟨h₁, g, d, tk₁, os⟩) :
    wpAny (Mo w) A (newList []) (fun acc s₃ => wpAny (Mo w) A (newFunctionEnv scope env.globals clo [] env.qual none .none (some env)) (fun cenv s₄ =>
      codeAny (Mo w) A (.compStart (.ListComp elt [⟨.Name x px, iter, ifs, 0⟩] scope pos) 0 (.ref I) acc { cenv with scope := relabel scope env }) (RR acc cenv.locals) s₄) E s₃) E ⟨h, g, d, tk, os⟩ := by
  refine wpAny_newObj_type (wpAny_newFunctionEnv hcell (by intro y hy; simp at hy) (fun h₁ hns₁ hsb₁ => ?_) hkind)
  dsimp only at hns₁ hsb₁ ⊢
  generalize hH2 : h.push { cls := .type "list", dict := none, data := .seq ([] : List Value).toArray } = H2 at hns₁ hsb₁ ⊢
  have hC : H2.objs.size = h.objs.size + 1 := by rw [← hH2, Heap.size_push]
  have old : Ext h h₁ := fun b o e => hsb₁.extBut b o (by rw [hC]; exact Nat.ne_of_lt (Nat.lt_succ_of_lt (Heap.lt_size e))) (Heap.get?_push_of_some _ (hH2 ▸ Heap.get?_push_of_some _ e))
  have hD : h₁.get? h.objs.size = some (lsO [] 0) := hsb₁.extBut _ _ (by rw [hC]; exact Nat.ne_of_lt (Nat.lt_succ_self _)) (Heap.get?_push_of_some _ (hH2 ▸ Heap.get?_push_size _ rfl))
  have fresh : ∀ a, h.objs.size ≤ a → h.get? a = none := fun a ha => by
    cases e : h.get? a with
    | none => rfl
    | some o' => exact absurd (Heap.lt_size e) (Nat.not_lt.mpr ha)
  let T := I :: news.map (·.1)
  have hk : Ext h₀ (hideAll h T) := fun b o e => hideAll_get _ (F.keep b o e) fun q => by
    refine prop_cut ?_; intro Pcut
    obtain ⟨p, hp, rfl⟩ := List.mem_map.mp (show b ∈ ((I, oI) :: news).map (·.1) from q)
    try unfold Pcut
    rw [(F.led p hp).2.2] at e; cases e
  have hL : ∀ o, h.get? L = some o → (hideAll h T).get? L = some o := fun o e => hideAll_get _ e fun q => by
    refine prop_cut ?_; intro Pcut
    obtain ⟨p, hp, e'⟩ := List.mem_map.mp (show L ∈ ((I, oI) :: news).map (·.1) from q)
    try unfold Pcut
    exact (F.led p hp).2.1 e'
  have hCn : (hideAll h T).get? H2.objs.size = none := by
    cases e : (hideAll h T).get? H2.objs.size with
    | none => rfl
    | some o => have := of_hideAll _ e; rw [fresh _ (by rw [hC]; exact Nat.le_succ _)] at this; cases this
  have G : Fm (hideAll h T) H2.objs.size nsC [] ((I, oI) :: (h.objs.size, lsO [] 0) :: news) h₁ := by
    refine ⟨⟨_, ⟨hns₁, fun b o e => old b o (of_hideAll _ e), by rw [hideAll_size, hC]; exact Nat.le_succ _⟩, fun i y v _ q => by simp at q⟩, fun p hp => ?_, ?_⟩
    · have hp' : p = (h.objs.size, lsO [] 0) ∨ p ∈ (I, oI) :: news := by
        rcases List.mem_cons.mp hp with q | q
        · exact .inr (q ▸ .head _)
        · rcases List.mem_cons.mp q with q | q
          · exact .inl q
          · exact .inr (.tail _ q)
      rcases hp' with rfl | hp'
      · refine ⟨hD, by rw [hC]; exact Nat.ne_of_lt (Nat.lt_succ_self _), ?_⟩
        cases e : (hideAll h T).get? h.objs.size with
        | none => rfl
        | some o => have := of_hideAll _ e; rw [fresh _ (Nat.le_refl _)] at this; cases this
      · have P := F.led p hp'
        refine ⟨old _ _ P.1, by rw [hC]; exact Nat.ne_of_lt (Nat.lt_succ_of_lt (Heap.lt_size P.1)), hideAll_none _ ?_⟩
        show p.1 ∈ ((I, oI) :: news).map (·.1)
        exact List.mem_map_of_mem hp'
    · have := F.nd
      refine ((List.Perm.swap (I, oI) (h.objs.size, lsO [] 0) news).map (·.1)).nodup_iff.mp ?_
      rw [List.map_cons, List.nodup_cons]
      exact ⟨fun q => by obtain ⟨p, hp, e⟩ := List.mem_map.mp q; have := Heap.lt_size (F.led p hp).1; rw [e] at this; exact Nat.lt_irrefl _ this, this⟩
  have st₁ : St 0 h₁ := Wk.frame _ _ _ st fun b _ o e => old b o e
  have loop : ∀ s₃ : Shared, s₃ = ⟨h₁, g, d, tk + ([] : List (Str × Value)).length, os⟩ →
      codeAny (Mo w) A (.compLoop (.ListComp elt [⟨.Name x px, iter, ifs, 0⟩] scope pos) 0 (.ref I) (.ref h.objs.size) (compEnvC scope clo H2.objs.size env)) (RR (.ref h.objs.size) H2.objs.size) s₃ := by
    rintro s₃ rfl
    refine comp_loop ix (cs := csC) (cl := clo) (hcs ▸ en.comp) Y Wk hst J (fun b hb => ?_) hix hn G st₁ j0 (fun i v ys news₁ h₂ tk₂ oI ep hi pv j F₂ => step _ _ _ i v ys news₁ h₂ tk₂ oI ep (W.keeps hk) (fun b o hb e => hideAll_get _ e hb) hi pv j F₂) fun ys vs₁ news₁ h₂ tk₂ ep j F₂ => ?_
    · rcases hfp b hb with q | ⟨⟨o, q⟩, q2⟩ | q
      · exact .inl q
      · exact .inr (.inl ⟨o, hideAll_get _ q q2⟩)
      · exact .inr (.inr q)
    · obtain ⟨oC, B⟩ := F.back hk hL F₂ hCn
      refine prop_cut ?_; intro Pcut
      obtain ⟨m, f, _⟩ := F₂.fr
      try unfold Pcut
      exact done _ _ oC ys news₁ h₂ tk₂ ep m j f.ns B
  exact codeAny_compStart_list (loop _ rfl) (Wk.self 0 _ _ _ st₁ (loop _ rfl))
theorem drop_take_clip {α : Type} (l : List α) (a b : Nat) : (l.drop (min a l.length)).take (min b l.length - min a l.length) = (l.drop a).take (b - a) := by
  by_cases h : a < l.length
  · rw [Nat.min_eq_left (Nat.le_of_lt h)]
    by_cases h2 : b ≤ l.length
    · rw [Nat.min_eq_left h2]
    · rw [Nat.min_eq_right (by lia), List.take_of_length_le (by simp), List.take_of_length_le (by simp; lia)]
  · rw [show min a l.length = l.length by lia, List.drop_length, List.drop_eq_nil_of_le (show l.length ≤ a by lia)]; simp
theorem r_slice2 {M : Model} {s : Shared} {lo hi : Expr} {Q : Value → Shared → Prop} (hq : wpAny M A (eval lo env) (fun l s₁ => wpAny M A (eval hi env) (fun u s₂ => Q (.ref s₂.heap.objs.size) ⟨s₂.heap.push { cls := .type "slice", data := .fields #[l, u, .none] }, s₂.gens, s₂.drawn, s₂.toks, s₂.os⟩) E s₁) E s) :
    wpAny M A (eval (.Slice (some lo) (some hi) none pos) env) Q E s :=
  wpAny_Slice (wpAny_evalPart_some (wpAny_mono hq (fun l s₁ q => wpAny_evalPart_some (wpAny_mono q (fun u s₂ q => wpAny_evalPart_none q) fun _ _ x => x)) fun _ _ x => x))
theorem r_slice1 {M : Model} {s : Shared} {lo : Expr} {Q : Value → Shared → Prop} (hq : wpAny M A (eval lo env) (fun l s₁ => Q (.ref s₁.heap.objs.size) ⟨s₁.heap.push { cls := .type "slice", data := .fields #[l, .none, .none] }, s₁.gens, s₁.drawn, s₁.toks, s₁.os⟩) E s) :
    wpAny M A (eval (.Slice (some lo) none none pos) env) Q E s :=
  wpAny_Slice (wpAny_evalPart_some (wpAny_mono hq (fun l s₁ q => wpAny_evalPart_none (wpAny_evalPart_none q)) fun _ _ x => x))
theorem r_slice0 {M : Model} {s : Shared} {hi : Expr} {Q : Value → Shared → Prop} (hq : wpAny M A (eval hi env) (fun u s₁ => Q (.ref s₁.heap.objs.size) ⟨s₁.heap.push { cls := .type "slice", data := .fields #[.none, u, .none] }, s₁.gens, s₁.drawn, s₁.toks, s₁.os⟩) E s) :
    wpAny M A (eval (.Slice none (some hi) none pos) env) Q E s :=
  wpAny_Slice (wpAny_evalPart_none (wpAny_evalPart_some (wpAny_mono hq (fun u s₁ q => wpAny_evalPart_none q) fun _ _ x => x)))
theorem bslice_aux {l : List UInt8} {lo hi : Option Int} {lv uv : Value} {t : Tok} {value slice : Expr} {Q : Value → Shared → Prop} (F : Fm h₀ L ns vs news h) (hl : l.length ≤ 16777216) (pl : IsPart lv lo) (pu : IsPart uv hi)
    (hq : ∀ h' t' tk', Fm h₀ L ns vs news h' → Ext h h' → Q (.bytes (KBy.picked l.toArray lo hi) t') ⟨h', g, d, tk', os⟩)
    (hs : subscripted slice false (.bytes l.toArray t) (.ref h.objs.size) = operate [.ref h.objs.size, .bytes l.toArray t] (getItem (.bytes l.toArray t) (.ref h.objs.size)))
    (ht : ∀ r, letTemporaryGo value (.bytes l.toArray t) r = pure ()) :
    wpAny (Mo w) A (subscriptTail value slice (.bytes l.toArray t) (.ref h.objs.size)) Q E ⟨h.push { cls := .type "slice", data := .fields #[lv, uv, .none] }, g, d, tk, os⟩ := by
  refine tail_of_ItemOn ⟨"bytes", _, FB.slot_bytes_getitem.lookup, typeIs_bytes _ _ _, getItem_meets (typeIs_bytes _ _ _) (by decide) FB.slot_bytes_getitem FB.entry_bytes_getitem (FB.args_bytes_getitem_2 _ _) (KBc.meets_slice2 l.toArray t _ pl pu)
    ⟨Heap.IsSliceOf.new _ _ _ _, Nat.le_trans (KBc.size_picked_le _ lo hi) (by rw [sizeLine_eq]; simpa using hl), fun t' k => hq _ t' k ((F.push _).drop (.cons _ (.refl _))) fun b o e => Heap.get?_push_of_some _ e⟩⟩ hs ht
theorem clip_int {n : Nat} {i : Int} (h : 0 ≤ i) : clipAt n i = min i.toNat n := by
  obtain ⟨k, rfl⟩ := Int.eq_ofNat_of_zero_le h
  simpa using clipAt_nat n k
theorem r_bsl2 {l : List UInt8} {i j : Int} {t t₁ t₂ : Tok} {value slice : Expr} {Q : Value → Shared → Prop} (F : Fm h₀ L ns vs news h) (hl : l.length ≤ 16777216) (hi : 0 ≤ i) (hj : 0 ≤ j)
    (hq : ∀ h' t' tk', Fm h₀ L ns vs news h' → Ext h h' → Q (.bytes ((l.drop i.toNat).take (j.toNat - i.toNat)).toArray t') ⟨h', g, d, tk', os⟩)
    (hs : subscripted slice false (.bytes l.toArray t) (.ref h.objs.size) = operate [.ref h.objs.size, .bytes l.toArray t] (getItem (.bytes l.toArray t) (.ref h.objs.size)) := by with_unfolding_all rfl)
    (ht : ∀ r, letTemporaryGo value (.bytes l.toArray t) r = pure () := by intro _; with_unfolding_all rfl) :
    wpAny (Mo w) A (subscriptTail value slice (.bytes l.toArray t) (.ref h.objs.size)) Q E ⟨h.push { cls := .type "slice", data := .fields #[.int i t₁, .int j t₂, .none] }, g, d, tk, os⟩ := by
  refine bslice_aux F hl (.int i t₁) (.int j t₂) (fun h' t' tk' F' k => ?_) hs ht
  rw [KBc.picked_eq]
  simp only [Option.elim, List.size_toArray, clip_int hi, clip_int hj, drop_take_clip]
  exact hq h' t' tk' F' k
theorem r_bsl1 {l : List UInt8} {i : Int} {t t₁ : Tok} {value slice : Expr} {Q : Value → Shared → Prop} (F : Fm h₀ L ns vs news h) (hl : l.length ≤ 16777216) (hi : 0 ≤ i)
    (hq : ∀ h' t' tk', Fm h₀ L ns vs news h' → Ext h h' → Q (.bytes (l.drop i.toNat).toArray t') ⟨h', g, d, tk', os⟩)
    (hs : subscripted slice false (.bytes l.toArray t) (.ref h.objs.size) = operate [.ref h.objs.size, .bytes l.toArray t] (getItem (.bytes l.toArray t) (.ref h.objs.size)) := by with_unfolding_all rfl)
    (ht : ∀ r, letTemporaryGo value (.bytes l.toArray t) r = pure () := by intro _; with_unfolding_all rfl) :
    wpAny (Mo w) A (subscriptTail value slice (.bytes l.toArray t) (.ref h.objs.size)) Q E ⟨h.push { cls := .type "slice", data := .fields #[.int i t₁, .none, .none] }, g, d, tk, os⟩ := by
  refine bslice_aux F hl (.int i t₁) .none (fun h' t' tk' F' k => ?_) hs ht
  rw [KBc.picked_eq]
  simp only [Option.elim, List.size_toArray, clip_int hi]
  have e : (l.drop (min i.toNat l.length)).take (l.length - min i.toNat l.length) = l.drop i.toNat := by
    rw [List.take_of_length_le (by simp)]
    by_cases q : i.toNat ≤ l.length
    · rw [Nat.min_eq_left q]
    · rw [Nat.min_eq_right (by lia), List.drop_length, List.drop_eq_nil_of_le (by lia)]
  rw [e]
  exact hq h' t' tk' F' k
theorem r_bsl0 {l : List UInt8} {j : Int} {t t₂ : Tok} {value slice : Expr} {Q : Value → Shared → Prop} (F : Fm h₀ L ns vs news h) (hl : l.length ≤ 16777216) (hj : 0 ≤ j)
    (hq : ∀ h' t' tk', Fm h₀ L ns vs news h' → Ext h h' → Q (.bytes (l.take j.toNat).toArray t') ⟨h', g, d, tk', os⟩)
    (hs : subscripted slice false (.bytes l.toArray t) (.ref h.objs.size) = operate [.ref h.objs.size, .bytes l.toArray t] (getItem (.bytes l.toArray t) (.ref h.objs.size)) := by with_unfolding_all rfl)
    (ht : ∀ r, letTemporaryGo value (.bytes l.toArray t) r = pure () := by intro _; with_unfolding_all rfl) :
    wpAny (Mo w) A (subscriptTail value slice (.bytes l.toArray t) (.ref h.objs.size)) Q E ⟨h.push { cls := .type "slice", data := .fields #[.none, .int j t₂, .none] }, g, d, tk, os⟩ := by
  refine bslice_aux F hl .none (.int j t₂) (fun h' t' tk' F' k => ?_) hs ht
  rw [KBc.picked_eq]
  simp only [Option.elim, List.size_toArray, clip_int hj, List.drop_zero, Nat.sub_zero]
  have e : l.take (min j.toNat l.length) = l.take j.toNat := by
    by_cases q : j.toNat ≤ l.length
    · rw [Nat.min_eq_left q]
    · rw [Nat.min_eq_right (by lia), List.take_of_length_le (Nat.le_refl _), List.take_of_length_le (by lia)]
  rw [e]
  exact hq h' t' tk' F' k
theorem r_iterB {l : List UInt8} {t : Tok} {Q : Value → Shared → Prop} (F : Fm h₀ L ns vs news h) (hq : ∀ I h' oI, Fm h₀ L ns vs ((I, oI) :: news) h' → KBw.IsBytesIter h' I l.toArray t 0 → Ext h h' → Q (.ref I) ⟨h', g, d, tk, os⟩) :
    wpAny (Mo w) A (pyIter (.bytes l.toArray t)) Q E ⟨h, g, d, tk, os⟩ :=
  KBw.pyIter_bytes (hq _ _ _ (F.push _) ⟨_, Heap.get?_push_size _ rfl, rfl, rfl⟩ fun b o e => Heap.get?_push_of_some _ e)
theorem st_bytes {I : Addr} {b : Array UInt8} {t : Tok} : ∀ i h, KBw.IsBytesIter h I b t i → ∃ o, h.get? I = some o := fun _ _ st => let ⟨o, ho, _⟩ := st; ⟨o, ho⟩
end
set_option hygiene false in
local macro_rules | `(tactic| wtm_at "loc") => `(tactic| first | with_reducible exact Loc.head | (with_reducible apply Loc.tail; wtm_at "loc"))
set_option hygiene false in
local macro_rules | `(tactic| wtm_at "lup") => `(tactic| first | with_reducible exact LUp.head | (with_reducible apply LUp.tail; wtm_at "lup"))
set_option hygiene false in
local macro_rules | `(tactic| wtm_at "mem") => `(tactic| first | with_reducible assumption | with_reducible exact List.mem_cons_self | (with_reducible apply List.mem_cons_of_mem; wtm_at "mem"))
set_option hygiene false in
local macro_rules | `(tactic| wtm_at "lkf") => `(tactic| first | (with_reducible exact Has.head) | ((with_reducible apply Has.tail); kernel_rfl; wtm_at "lkf"))
set_option hygiene false in
local macro_rules | `(tactic| wtm_at "en") => `(tactic| first | with_reducible assumption | exact En.fn | exact En.fnC | exact En.comp En.fn | exact En.comp En.fnC)
set_option hygiene false in
local macro_rules | `(tactic| wtm_at "f0") => `(tactic| ((try dsimp only [List.length, List.map, List.replicate, List.set, List.cons_append, List.nil_append, Nat.reduceAdd, Nat.reduceSub, Nat.zero_add, Nat.sub_self] at F); (try (first | (refine wp_start ?_; intro Av envv) | (refine wpR_start ?_; intro Av envv)))))
set_option hygiene false in
local macro_rules | `(tactic| wtm_at "name") => `(tactic| first
  | (refine r_loc (by wtm_at "en") Y F (by wtm_at "loc") ?_)
  | (refine r_glb (by wtm_at "en") Y W F (by wtm_at "mem") ?_)
  | (refine r_blt (by wtm_at "en") Y W F (by wtm_at "mem") ?_)
  | (refine r_cell (by wtm_at "en") Y (by wtm_at "mem") hcl ⟨_, F.get (by wtm_at "mem"), hco⟩ ?_)
  | (refine r_cell (by wtm_at "en") Y (by wtm_at "mem") hclF ⟨_, F.get (by wtm_at "mem"), hco⟩ ?_)
  | (refine r_cell (by wtm_at "en") Y (by wtm_at "mem") (by assumption) ⟨_, F.get (by wtm_at "mem"), by assumption⟩ ?_))
set_option hygiene false in
local macro_rules | `(tactic| wtm_at "ev") => `(tactic| first
  | ((with_reducible show wpAny _ _ (eval ..) ..); first
    | ((with_reducible show wpAny _ _ (eval (.Name ..) _) ..); wtm_at "name")
    | (with_reducible first
      | refine r_cint ?_ | refine wpAny_BinOp ?_ | refine r_cstr ?_ | refine r_cnone ?_ | refine r_cbool ?_ | refine r_cbytes ?_ | refine Subscript_ ?_ | refine r_slice2 ?_ | refine r_slice1 ?_ | refine r_slice0 ?_ | refine wpAny_IfExp ?_ | refine wpAny_UnaryOp ?_)
    | ((with_reducible show wpAny _ _ (eval (.Compare ..) _) ..); refine wpAny_Compare1 ?_)
    | ((with_reducible show wpAny _ _ (eval (.Call (.Name ..) ..) _) ..); first
      | (refine r_call (by wtm_at "en") Y W F (by wtm_at "mem") (by kernel_rfl) ?_)
      | (refine r_callB (by wtm_at "en") Y W F (by wtm_at "mem") ?_)
      | (refine r_callT (by wtm_at "en") Y W F (by wtm_at "mem") ?_)))
  | ((with_reducible show wpAny _ _ (spliced _) ..); first | with_reducible refine r_sp0 ?_ | refine r_sp ?_)
  | ((with_reducible show Ext .. ∧ wpAny ..); refine ⟨F.keep, ?_⟩)
  | ((with_reducible show wpAny _ _ (binaryOp _ _ _) ..); with_reducible first
    | refine r_add ?_ | refine r_sub ?_ | refine r_or ?_ | refine r_and ?_ | refine r_mod (by decide) ?_)
  | (with_reducible refine r_neg ?_)
  | ((with_reducible show wpAny _ _ (compareOp _ _ _) ..); with_reducible first
    | refine r_lt ?_ | refine r_gt ?_ | refine r_le ?_ | refine r_ne ?_)
  | (with_reducible refine wpAny_truthy_bool ?_)
  | ((with_reducible show wpAny _ _ (isTrue _ _ _) ..); first
    | ((with_reducible show wpAny _ _ (isTrue (.Compare ..) _ _) ..); refine wpAny_isTrue_Compare1 ?_)
    | (with_reducible first | refine wpAny_isTrue_BoolOp ?_ | refine wpAny_isTrue_Not ?_)
    | refine PyProof.Rows.isTrue_plain ?_)
  | (with_reducible first | refine wpAny_allTrue_Or_cons ?_ | refine wpAny_allTrue_And_cons ?_ | refine wpAny_allTrue_Or_nil ?_ | refine wpAny_allTrue_And_nil ?_ | refine wpAny_execs_cons ?_ | refine wpAny_execs_nil ?_ | refine wpAny_If ?_ | refine wpAny_Return_some ?_)
  | ((with_reducible show wpAny _ _ (exec (.For ..) _) ..); refine wpAny_For ?_)
  | ((with_reducible show wpAny _ _ (exec (.Expr ..) _) ..); refine wpAny_Expr ?_)
  | ((with_reducible show wpAny _ _ (exec (.Assign [.Name ..] ..) _) ..); refine wpAny_Assign_Name ?_)
  | ((with_reducible show wpAny _ _ (storeName _ _ _) ..); refine r_st (by wtm_at "en") Y F (by wtm_at "lup") ?_; (clear F); (intro h F))
  | ((with_reducible show wpAny _ _ (call (.builtin _) [.bytes ..]) ..); refine r_lenb (by first | assumption | lia) ?_)
  | ((with_reducible show wpAny _ _ (subscriptTail _ _ (.bytes ..) (.ref _)) ..); first
    | (refine r_bsl2 (g := g) (d := d) (os := os) F (by first | assumption | lia) (by first | assumption | lia) (by first | assumption | lia) ?_; (clear F); (intro h t tk F kx))
    | (refine r_bsl1 (g := g) (d := d) (os := os) F (by first | assumption | lia) (by first | assumption | lia) ?_; (clear F); (intro h t tk F kx))
    | (refine r_bsl0 (g := g) (d := d) (os := os) F (by first | assumption | lia) (by first | assumption | lia) ?_; (clear F); (intro h t tk F kx)))
  | ((with_reducible show if true = true then _ else _); refine r_ifT rfl ?_) | ((with_reducible show if false = true then _ else _); refine r_ifF Bool.false_ne_true ?_))
set_option hygiene false in
local macro_rules | `(tactic| wtm_at "fs") => `(tactic| ((try dsimp only [List.length, List.map, List.replicate, List.set, List.cons_append, List.nil_append, Nat.reduceAdd, Nat.reduceSub, Nat.zero_add, Nat.sub_self] at F); (try (refine wp_cut ?_; intro Qcut hcut))))
set_option hygiene false in
local macro_rules | `(tactic| wtm_at "ev") => `(tactic| first
  | ((with_reducible show wpAny _ _ (exec (.Assign [.Attribute ..] ..) _) ..); refine plainObj_wpAny_Assign_Attribute ?_)
  | ((with_reducible show wpAny _ _ (setAttr _ _ _) ..); refine r_setA W F rep (by kernel_rfl) (by kernel_rfl) ?_; (clear F rep); (intro h es n rep F))
  | ((with_reducible show wpAny _ _ (eval (.Attribute ..) _) ..); refine Attribute_any_ ?_)
  | ((with_reducible show wpAny _ _ (getAttr (.ref _) _ _) ..); refine r_getA W F (by first | with_reducible assumption | with_reducible exact F.at_ rep | with_reducible exact At.base F (by with_reducible assumption) | exact At.mem F rep (by wtm_at "mem") (by wtm_at "mem")) (by wtm_at "lkf") (by first | assumption | kernel_rfl) (by kernel_rfl) ?_))
set_option hygiene false in
local macro_rules | `(tactic| wtm_at "ev") => `(tactic| first
  | (with_reducible first | refine Tuple_ ?_ | refine List_ ?_)
  | ((with_reducible show wpAny _ _ (newTuple _) ..); refine r_newT F (by kernel_rfl) ?_; (clear F); (intro a h FT F Ia kx))
  | ((with_reducible show wpAny _ _ (newList _) ..); refine r_newL F (by kernel_rfl) ?_; (clear F); (intro a h F kx)))
set_option hygiene false in
local macro_rules | `(tactic| wtm_at "ev") => `(tactic| first
  | ((with_reducible show wpAny _ _ (binaryOp .Mult _ _) ..); refine r_mul (IntMulOk.of_left (by decide)) ?_)
  | ((with_reducible show wpAny _ _ (eval (.ListComp ..) _) ..); refine r_lcomp _ ?_ (by rfl) (by rfl) (by decide +kernel)))
set_option hygiene false in
local macro_rules | `(tactic| wtm_at "ev") => `(tactic| first
  | ((with_reducible show wpAny _ _ (eval (.Call (.Attribute ..) (_ :: _) ..) _) ..); wtm_at "bmeth"; refine r_callBM ?_)
  | ((with_reducible show BMeth _ _ _ _ (.str ..) _); refine BMeth.join ?_)
  | ((with_reducible show wpAny _ _ (eval (.Call (.Attribute ..) (_ :: _) ..) _) ..); refine r_callM ?_)
  | ((with_reducible show wpAny _ _ (eval (.Call (.Attribute ..) [] ..) _) ..); refine r_callM0 ?_)
  | ((with_reducible show MethAt ..); refine MethAt.mk W F (by first | with_reducible assumption | with_reducible exact F.at_ rep | with_reducible exact At.base F (by with_reducible assumption) | exact At.mem F rep (by wtm_at "mem") (by wtm_at "mem")) (by wtm_at "mem") (by kernel_rfl) ?_))
set_option hygiene false in
local macro_rules | `(tactic| wtm_at "bmeth") => `(tactic| first
  | with_reducible show wpAny _ _ (eval (.Call (.Attribute _ (Str.ofString "join") _) ..) _) ..
  | with_reducible show wpAny _ _ (eval (.Call (.Attribute _ (Str.ofString "append") _) ..) _) ..
  | with_reducible show wpAny _ _ (eval (.Call (.Attribute _ (Str.ofString "extend") _) ..) _) ..
  | with_reducible show wpAny _ _ (eval (.Call (.Attribute _ (Str.ofString "clear") _) ..) _) ..)
set_option hygiene false in
local macro_rules | `(tactic| wtm_at "ev") => `(tactic| first
  | (with_reducible first | refine r_eqS ?_ | refine r_neS ?_ | refine r_ge ?_ | refine r_eq ?_ | refine BoolOp_and ?_ | refine BoolOp_or ?_ | refine BoolOp_one ?_)
  | ((with_reducible show wpAny _ _ (call (.type "bytes") [.int ..]) ..); refine r_bytesN (by lia) (by lia) ?_; (intro tb tk))
  | ((with_reducible show wpAny _ _ (binaryOp .Add (.bytes ..) (.bytes ..)) ..); refine r_addb (by first | exact addb1 (by assumption) (by wtm_at "l4") | exact addb2 (by assumption) (by wtm_at "l4") | exact addb3 (by assumption) (by assumption) (by assumption) | (simp; lia)) ?_; (intro tb tk)))
set_option hygiene false in
local macro_rules | `(tactic| wtm_at "l4") => `(tactic| first | exact Nat.le_of_eq (by assumption) | exact Nat.le_of_ble_eq_true rfl)
set_option hygiene false in
local macro_rules | `(tactic| wtm_at "rem") => `(tactic| first | with_reducible exact Rem.head | (with_reducible apply Rem.tail; wtm_at "rem") | (with_reducible apply Rem.app; wtm_at "rem"))
set_option hygiene false in
local macro_rules | `(tactic| wtm_at "pm1") => `(tactic| first
  | with_reducible exact List.Perm.refl _
  | (with_reducible refine perm_stepR (by wtm_at "rem") ?_; wtm_at "pm1")
  | (with_reducible refine perm_stepL (by wtm_at "rem") ?_; wtm_at "pm1")
  | (with_reducible refine List.Perm.append_left _ ?_; wtm_at "pm1"))
set_option hygiene false in
local macro_rules | `(tactic| wtm_at "pm") => `(tactic| ((try dsimp only [List.cons_append, List.nil_append]); wtm_at "pm1"))
set_option hygiene false in
local macro_rules | `(tactic| wtm_at "ev") => `(tactic| first
  | ((with_reducible show wpAny _ _ (exec ..) ..); (fail_if_success refine Cut.done (by with_reducible assumption) ?_); refine wp_cut ?_; intro Qcut hcut)
  | ((with_reducible show wpAny _ _ (execs (_ :: _) _) ..); (fail_if_success refine Cut.done (by with_reducible assumption) ?_); refine wp_cut ?_; intro Qcut hcut))
set_option hygiene false in
local macro_rules | `(tactic| wtm_at "pc") => `(tactic| (refine prop_cut ?_; intro Pcut))
set_option hygiene false in
local macro_rules | `(tactic| wtm_at "pu") => `(tactic| (try unfold Pcut))

set_option hygiene false in
local macro_rules | `(tactic| wtm_at "memL") => `(tactic| first | with_reducible assumption | with_reducible exact List.mem_cons_self | (with_reducible apply List.mem_cons_of_mem; wtm_at "memL") | (with_reducible apply List.mem_append_right; wtm_at "memL"))
set_option hygiene false in
local macro_rules | `(tactic| wtm_at "ct") => `(tactic| (refine wp_cut ?_; intro Qcut hcut))
section
variable {w : World} {A : Around} {E : Value → Shared → Prop} {h₀ hb h h' : Heap} {g : Array GenState} {d : Drawn} {tk : Nat} {os : OsState} {L C a : Addr} {mg mb : Str → Option Value} {mean : ExcName → Option Value}
  {ns cns : List Str} {vs : List (Option Value)} {cl : List (Str × Addr)} {gs bs : List (Str × Value)} {news : List (Addr × Obj)} {cs : Scope} {x : Str} {pos px : Pos} {v : Value} {env : Env} {o : Obj} {i j k : Int} {t u t₁ t₂ t₃ : Tok}
theorem r_neg {Q : Value → Shared → Prop} (hq : Q (.int (-i) tk) ⟨h, g, d, tk + 1, os⟩) : wpAny (Mo w) A (unaryOp .USub (.int i t)) Q E ⟨h, g, d, tk, os⟩ := neg_int hq
theorem r_range3 {Q : Value → Shared → Prop} (F : Fm h₀ L ns vs news h) (hk : k ≠ 0) (hk2 : k.natAbs < 1073741824) (hq : ∀ r h', IsRange h' r i j k t₁ t₂ t₃ → Fm h₀ L ns vs news h' → Ext h h' → Q (.ref r) ⟨h', g, d, tk, os⟩) :
    wpAny (Mo w) A (call (.type "range") [.int i t₁, .int j t₂, .int k t₃]) Q E ⟨h, g, d, tk, os⟩ :=
  call_range_3 hk (hq _ _ (IsRange.new _ _ _ _ _ _ _) ((F.push _).drop (.cons _ (.refl _))) fun b o e => Heap.get?_push_of_some _ e) (.inl (PyProof.noPylong_small hk2))
theorem r_range1 {Q : Value → Shared → Prop} (F : Fm h₀ L ns vs news h) (hq : ∀ r h' t₁ t₃ tk, IsRange h' r 0 i 1 t₁ t₂ t₃ → Fm h₀ L ns vs news h' → Ext h h' → Q (.ref r) ⟨h', g, d, tk, os⟩) :
    wpAny (Mo w) A (call (.type "range") [.int i t₂]) Q E ⟨h, g, d, tk, os⟩ :=
  call_range_1 (hq _ _ _ _ _ (IsRange.new _ _ _ _ _ _ _) ((F.push _).drop (.cons _ (.refl _))) fun b o e => Heap.get?_push_of_some _ e)
theorem r_range2 {Q : Value → Shared → Prop} (F : Fm h₀ L ns vs news h) (hq : ∀ r h' t₃ tk, IsRange h' r i j 1 t₁ t₂ t₃ → Fm h₀ L ns vs news h' → Ext h h' → Q (.ref r) ⟨h', g, d, tk, os⟩) :
    wpAny (Mo w) A (call (.type "range") [.int i t₁, .int j t₂]) Q E ⟨h, g, d, tk, os⟩ :=
  call_range_2 (hq _ _ _ _ (IsRange.new _ _ _ _ _ _ _) ((F.push _).drop (.cons _ (.refl _))) fun b o e => Heap.get?_push_of_some _ e)
theorem r_iterR {r : Addr} {Q : Value → Shared → Prop} (n : Nat) (F : Fm h₀ L ns vs news h) (hr : IsRange h r i j k t₁ t₂ t₃) (hs : Builtin.Range.small i j k = true) (hn : Builtin.Range.rangeSize i j k = n)
    (hq : ∀ I h' oI, Fm h₀ L ns vs ((I, oI) :: news) h' → IsRangeIter h' I (i + ((0 : Nat) : Int) * k) ((n : Int) - ((0 : Nat) : Int)) k → Ext h h' → Q (.ref I) ⟨h', g, d, tk, os⟩) :
    wpAny (Mo w) A (pyIter (.ref r)) Q E ⟨h, g, d, tk, os⟩ := by
  refine wpAny_pyIter_range hr hs (hq _ _ _ (F.push _) ?_ fun b o e => Heap.get?_push_of_some _ e)
  have e1 : i + ((0 : Nat) : Int) * k = i := by simp
  have e2 : ((n : Int) - ((0 : Nat) : Int)) = Builtin.Range.rangeSize i j k := by rw [hn]; simp
  rw [e1, e2]
  exact Heap.get?_push_size _ rfl
theorem st_range {I : Addr} {n : Nat} : ∀ (q : Nat) (h : Heap), IsRangeIter h I (i + (q : Int) * k) ((n : Int) - (q : Int)) k → ∃ o, h.get? I = some o := fun _ _ st => ⟨_, st⟩
theorem gap {i j : Nat} (h : i < j) : i + 1 + (j - i - 1) = j := by rw [Nat.sub_sub]; exact Nat.add_sub_cancel' h
theorem addb1 {l m : List UInt8} {p : Nat} (hl : l.length ≤ 1000) (hm : m.length ≤ 4) : (l.take p).length + m.length ≤ 16777216 :=
  Nat.le_trans (Nat.add_le_add (Nat.le_trans (by rw [List.length_take]; exact Nat.min_le_right _ _) hl) hm) (by decide)
theorem addb2 {l m : List UInt8} {p q : Nat} (hl : l.length ≤ 1000) (hm : m.length ≤ 4) : (l.take p ++ m).length + (l.drop q).length ≤ 16777216 := by
  rw [List.length_append]
  exact Nat.le_trans (Nat.add_le_add (Nat.add_le_add (Nat.le_trans (by rw [List.length_take]; exact Nat.min_le_right _ _) hl) hm) (Nat.le_trans (by rw [List.length_drop]; exact Nat.sub_le _ _) hl)) (by decide)
theorem addb3 {l : List UInt8} {k : Int} {p : Nat} {c : UInt8} (hl : l.length ≤ 1000) (hk : k = p) (hp : p ≤ 3) : l.length + (List.replicate k.toNat c).length ≤ 16777216 := by
  rw [hk, List.length_replicate]
  exact Nat.le_trans (Nat.add_le_add hl hp) (by decide)
theorem r_addb {l m : List UInt8} {Q : Value → Shared → Prop} (hl : l.length + m.length ≤ 16777216) (hq : ∀ t' tk', Q (.bytes (l ++ m).toArray t') ⟨h, g, d, tk', os⟩) :
    wpAny (Mo w) A (binaryOp .Add (.bytes l.toArray t) (.bytes m.toArray u)) Q E ⟨h, g, d, tk, os⟩ :=
  KBy.add_bytes (by simpa using hl) fun t' k => by have := hq t' k; rwa [← List.append_toArray] at this
theorem noBytes_int : typeLookup (.type "int") "__bytes__" = pure none := by rw [typeLookup_type, builtinLookup_eq_fast]; kernel_rfl
theorem bytesN_new {n : Int} {Q : Value → Shared → Prop} (h0 : 0 ≤ n) (h1 : n ≤ 1000)
    (hq : ∀ t' tk', Q (.bytes (List.replicate n.toNat 0).toArray t') ⟨h, g, d, tk', os⟩) :
    codeAny (Mo w) A (.call (.builtin "bytes.__new__") ⟨[.type "bytes", .int n t], []⟩) (wants Q E) ⟨h, g, d, tk, os⟩ := by
  refine codeAny_of_tree ?_
  show wpAny _ A.in1 (do checkBuiltinCall "bytes.__new__" ⟨[.type "bytes", .int n t], []⟩; again (.builtin "bytes.__new__" ⟨[.type "bytes", .int n t], []⟩)) _ _ _
  refine wpAny_bind (wpAny_of_eq (F.bm_newCall _) (wpAny_pure ⟨plainId_quiet F.bm_plain _, codeAny_builtin F.bm_entry ?_⟩))
  rw [Around.under_plainId F.bm_plain _]
  have hT : (Shared.mk h g d tk os).TypeIs (.int n t) "int" := typeIs_int _ _ _
  unfold Builtin.«bytes.__new__»
  refine wpAny_bind (wpAny_of_eq (a := true) rfl ?_)
  refine bm_if_false rfl ?_
  refine wpAny_bind (wpAny_of_eq F.bm_sub ?_)
  refine bm_if_false rfl ?_
  refine wpAny_bind (wpAny_of_eq (F.bm_bind _) ?_)
  refine wpAny_bind (wpAny_of_eq (a := ()) rfl ?_)
  refine wpAny_bind (wpAny_of_eq (a := ()) rfl ?_)
  refine bm_if_false rfl ?_
  refine wpAny_bind (wpAny_specialOf hT noBytes_int ?_)
  refine wpAny_bind (wpAny_of_eq (a := false) rfl ?_)
  refine bm_if_false rfl ?_
  refine wpAny_bind (wpAny_specialOf hT F.slot_int_index.lookup ?_)
  refine bm_if_false rfl ?_
  refine wpAny_bind (wpAny_of_eq (a := Except.ok n) rfl ?_)
  refine bm_if_false (by simp only [Builtin.Bytes.fitsIndex, Bool.not_eq_false', Bool.and_eq_true, decide_eq_true_eq]; lia) ?_
  have hn : ¬ n < 0 := by lia
  have hn2 : ¬ n > 2 ^ 63 - 34 := by lia
  simp only [hn, hn2, if_false]
  refine bm_if_false (KBy.tooLong_not (by lia)) ?_
  refine wpAny_bind (wpAny_rule ?_)
  refine wpAny_bind (wpAny_mkBytes ?_ (by rw [sizeLine_eq]; simp; lia))
  show wpAny _ _ (if (Value.type "bytes" == Value.type "bytes") = true then _ else _) _ _ _
  refine bm_if_true (by decide) ?_
  have e : (Array.replicate n.toNat (0 : UInt8)) = (List.replicate n.toNat 0).toArray := by simp
  rw [e]
  first
    | exact wpAny_pure (hq _ _)
    | exact wpAny_bind (wpAny_pure (wpAny_pure (hq _ _)))
theorem r_bytesN {n : Int} {Q : Value → Shared → Prop} (h0 : 0 ≤ n) (h1 : n ≤ 1000) (hq : ∀ t' tk', Q (.bytes (List.replicate n.toNat 0).toArray t') ⟨h, g, d, tk', os⟩) :
    wpAny (Mo w) A (call (.type "bytes") [.int n t]) Q E ⟨h, g, d, tk, os⟩ := by
  refine callType_codes (Q₁ := fun obj s₁ => s₁.TypeIs obj "bytes" ∧ Q obj s₁) F.bm_called (F.bm_typeCall _) F.entry_object_init
    (bytesN_new h0 h1 fun t' k => ⟨PySem.W.typeIs_bytes _ _ _, hq t' k⟩) fun obj s₁ h₁ => ?_
  exact ⟨h₁.1, F.args_object_init_2 obj _, object_init_meets F.bm_called.init.lookup F.bm_called.made (by decide) pw w A.in1 _ s₁ ⟨h₁.1, rfl, h₁.2⟩⟩
theorem rsz_pos {i j k : Int} (hk : 0 < k) : Builtin.Range.rangeSize i j k = if i < j then (j - i - 1) / k + 1 else 0 := by
  unfold Builtin.Range.rangeSize; rw [if_pos hk]
theorem rsz_neg {i j : Int} : Builtin.Range.rangeSize i j (-1) = if i > j then i - j else 0 := by
  unfold Builtin.Range.rangeSize; rw [if_neg (by decide)]
  split
  · simp;
  · rfl
theorem range_small {i j k : Int} (hi : -1000000 ≤ i ∧ i ≤ 1000000) (hj : -1000000 ≤ j ∧ j ≤ 1000000) (hk : k = 1 ∨ k = 4 ∨ k = 16 ∨ k = -1) : Builtin.Range.small i j k = true := by
  have hs : -1 ≤ Builtin.Range.rangeSize i j k ∧ Builtin.Range.rangeSize i j k ≤ 3000000 := by
    by_cases h0 : 0 < k
    · rw [rsz_pos h0]
      split
      · have h1 : 0 ≤ j - i - 1 := by lia
        have a := Int.ediv_nonneg h1 (Int.le_of_lt h0)
        have b := Int.ediv_le_self k h1
        generalize (j - i - 1) / k = q at a b
        clear hk
        lia
      · decide
    · obtain rfl : k = -1 := by lia
      rw [rsz_neg]; clear hk; split <;> lia
  have hk' : -1 ≤ k ∧ k ≤ 16 := by rcases hk with rfl | rfl | rfl | rfl <;> decide
  clear hk
  unfold Builtin.Range.small Builtin.Range.rangeFitsLong
  generalize Builtin.Range.rangeSize i j k = z at hs
  have f : ∀ x : Int, -4000000 ≤ x → x ≤ 4000000 → (decide (-2 ^ 63 ≤ x) && decide (x < 2 ^ 63)) = true := fun x a b => by
    rw [decide_eq_true (Int.le_trans (by decide) a), decide_eq_true (Int.lt_of_le_of_lt b (by decide))]; rfl
  rw [f i (Int.le_trans (by decide) hi.1) (Int.le_trans hi.2 (by decide)), f j (Int.le_trans (by decide) hj.1) (Int.le_trans hj.2 (by decide)), f k (Int.le_trans (by decide) hk'.1) (Int.le_trans hk'.2 (by decide)), f z (Int.le_trans (by decide) hs.1) (Int.le_trans hs.2 (by decide))]
  rw [Bool.true_and, Bool.true_and, Bool.true_and, Bool.true_and, Bool.or_eq_true]
  right
  split
  · exact f _ (Int.le_trans (by decide) (Int.add_le_add hj.1 (Int.sub_le_sub hk'.1 (Int.le_refl 1)))) (Int.le_trans (Int.add_le_add hj.2 (Int.sub_le_sub hk'.2 (Int.le_refl 1))) (by decide))
  · exact f _ (Int.le_trans (by decide) (Int.add_le_add hj.1 (Int.add_le_add hk'.1 (Int.le_refl 1)))) (Int.le_trans (Int.add_le_add hj.2 (Int.add_le_add hk'.2 (Int.le_refl 1))) (by decide))
end
noncomputable def lentIds : List String := Builtin.Bytes.decodersThatHold ++ ["bytearray.__contains__", "bytearray.__mod__", "bytearray.__rmod__", "_struct.pack_into.held", "bytearray.find.held"]
noncomputable def okc : Code → Bool
  | .builtin id _ => !lentIds.contains id
  | _ => true
noncomputable def Cb (l : List (Code × Pos)) : Prop := ∀ x ∈ l, okc x.1 = true
noncomputable def wpR {α : Type} (M : Model) (A : Around) (t : Sem α) (Q : α → Shared → Prop) (s : Shared) : Prop :=
  ∀ Γ p, Γ.In A → okc Γ.code = true → Cb Γ.below → Sem.wp M Γ t (fun a _ s' => Q a s') (fun _ _ _ => False) p s
noncomputable def codeR (M : Model) (A : Around) (c : Code) (R : Flow → Shared → Prop) (s : Shared) : Prop :=
  ∀ Γ p, Γ.code = c → Γ.Below A → Cb Γ.below → wpCode M Γ (fun r s' => match r with | .ok f => R f s' | .error _ => False) p s
section
variable {α β : Type} {M : Model} {A : Around} {s : Shared} {c : Code}
theorem wpR_lift {t : Sem α} {Q : α → Shared → Prop} (h : wpAny M A t Q (fun _ _ => False) s) : wpR M A t Q s := fun Γ p i _ _ => h Γ p i
theorem codeR_lift {R : Flow → Shared → Prop} (h : codeAny M A c (fun r s' => match r with | .ok f => R f s' | .error _ => False) s) : codeR M A c R s := fun Γ p e b _ => h Γ p e b
theorem wpR_pure {a : α} {Q : α → Shared → Prop} (h : Q a s) : wpR M A (pure a) Q s := fun _ _ _ _ _ => h
theorem wpR_mono {t : Sem α} {Q Q' : α → Shared → Prop} (h : wpR M A t Q s) (hQ : ∀ a s, Q a s → Q' a s) : wpR M A t Q' s := fun Γ p i o b =>
  Sem.wp_mono M Γ t (fun a _ s => hQ a s) (fun _ _ _ x => x) p s (h Γ p i o b)
theorem wpR_bind {m : Sem α} {f : α → Sem β} {Q : β → Shared → Prop} (h : wpR M A m (fun a s' => wpR M A (f a) Q s') s) : wpR M A (m >>= f) Q s := fun Γ p i o b => by
  rw [Sem.wp_bind']
  exact Sem.wp_mono M Γ m (fun a p' s' h' => h' Γ p' i o b) (fun _ _ _ x => x) p s (h Γ p i o b)
theorem wpR_step {m : Sem α} {f : α → Sem β} {Q : β → Shared → Prop} (h : wpAny M A m (fun a s' => wpR M A (f a) Q s') (fun _ _ => False) s) : wpR M A (m >>= f) Q s := wpR_bind (wpR_lift h)
theorem wpR_look {m : Sem α} {a : α} {f : α → Sem β} {Q : β → Shared → Prop} (l : Looks M s.heap m a) (h : wpR M A (f a) Q s) : wpR M A (m >>= f) Q s := wpR_step (l.here h)
theorem wpR_holding {vs : List Value} {m : Sem α} {Q : α → Shared → Prop} (h : wpR M A m Q s) : wpR M A (holding vs m) Q s := fun Γ p i o b => by rw [Sem.wp_holding]; exact h Γ p i o b
theorem wpR_onRaise {m : Sem α} {k : Value → Sem Unit} {Q : α → Shared → Prop} (h : wpR M A m Q s) : wpR M A (m.onRaise k) Q s := fun Γ p i o b => by
  rw [Sem.wp_onRaise]
  exact Sem.wp_mono M Γ m (fun _ _ _ x => x) (fun _ _ _ x => x.elim) p s (h Γ p i o b)
theorem wpR_eq {t t' : Sem α} {Q : α → Shared → Prop} (e : t = t') (h : wpR M A t' Q s) : wpR M A t Q s := e ▸ h
theorem Cb_enter {Γ : Ctx} {p : Pos} (o : okc Γ.code = true) (b : Cb Γ.below) : Cb ((Γ.code, p) :: Γ.below) := fun x hx => by
  rcases List.mem_cons.mp hx with rfl | q
  · exact o
  · exact b x q
theorem wpR_run {Q : Flow → Shared → Prop} (h : codeR M (A.mark none) c Q s) : wpR M A (PySem.run c none) Q s := fun Γ p i o b => by
  rw [Sem.wp_run]
  refine wpCode_mono (fun r s' h' => ?_) (h _ p rfl (i.enter c none p (by intro x; cases x)) (Cb_enter o b))
  cases r with
  | ok f => exact h'
  | error e => exact h'.elim
theorem wpR_runOwn {env : Env} {Q : Flow → Shared → Prop} (h : codeR M (A.mark none) c Q s) : wpR M A (runOwn c env none) Q s := by
  unfold runOwn; exact wpR_onRaise (wpR_run h)
theorem wpR_runValue {Q : Value → Shared → Prop} (h : codeR M A c (fun f s' => match f with | .ret v => Q v s' | _ => False) s) : wpR M A (runValue c) Q s := fun Γ p i o b => by
  rw [Sem.wp_runValue]
  refine wpCode_mono (fun r s' h' => ?_) (h _ p rfl (i.enter c none p (by intro x; cases x)) (Cb_enter o b))
  match r, h' with
  | .ok (.ret v), h' => exact h'
theorem wpR_call {f : Value} {pos : List Value} {kw : List (Str × Value)} {Q : Value → Shared → Prop} (h : codeR M A (.call f ⟨pos, kw⟩) (fun f s' => match f with | .ret v => Q v s' | _ => False) s) :
    wpR M A (call f pos kw) Q s := wpR_runValue h
theorem codeR_mono {R R' : Flow → Shared → Prop} (h : codeR M A c R s) (hR : ∀ f s, R f s → R' f s) : codeR M A c R' s := fun Γ p e b cb =>
  wpCode_mono (fun r s' h' => by cases r with | ok f => exact hR _ _ h' | error e => exact h') (h Γ p e b cb)
noncomputable def finR (M : Model) (A : Around) (R : Flow → Shared → Prop) (fin : Fin) (s' : Shared) : Prop := match fin with | .done f => R f s' | .again c' => c'.quiet = true ∧ codeR M A c' R s'
theorem codeR_tree {R : Flow → Shared → Prop} (o : okc c = true) (h : wpR M (A.under c) (M.den c) (finR M A R) s) : codeR M A c R s := fun Γ p e i b => by
  rw [wpCode_iff_wp, e]
  refine Sem.wp_mono M Γ _ (fun fin p' s' h' => ?_) (fun _ _ _ x => x) p s (h Γ p (e ▸ i.in) (e ▸ o) b)
  cases fin with
  | done f => exact h'
  | again c' => exact ⟨h'.1, h'.2 (Γ.goto c') p' rfl (i.goto c') b⟩
theorem codeR_loop {R : Flow → Shared → Prop} (o : okc c = true) (hq : c.quiet = true) (I : Nat → Shared → Prop)
    (turn : ∀ n s, I n s → wpR M (A.under c) (M.den c) (fun fin s' => match fin with | .done f => R f s' | .again c' => (c' = c ∧ ∃ m, m < n ∧ I m s') ∨ (c'.quiet = true ∧ codeR M A c' R s')) s) :
    ∀ n s, I n s → codeR M A c R s := fun n => by
  induction n using Nat.strongRecOn with
  | ind n ih =>
    intro s h
    refine codeR_tree o (wpR_mono (turn n s h) fun fin s' hf => ?_)
    cases fin with
    | done f => exact hf
    | again c' =>
      rcases hf with ⟨rfl, m, hm, hI⟩ | hf
      · exact ⟨hq, ih m hm _ hI⟩
      · exact hf
theorem wpR_start {env : Env} {b : List Stmt} {Q : Flow → Shared → Prop} (h : let A' := A; let e' := env; wpR M A' (execs b e') Q s) : wpR M A (execs b env) Q s := h
theorem any_ok {f : Code × Pos → Bool} (hf : ∀ c p, okc c = true → f (c, p) = false) {l : List (Code × Pos)} (b : Cb l) : l.any f = false := by
  rw [List.any_eq_false]
  intro x hx
  rw [hf x.1 x.2 (b x hx)]; exact Bool.false_ne_true
theorem wpR_exported {v : Value} {Q : Bool → Shared → Prop} (h : Q false s) : wpR M A (Builtin.Bytes.exported v) Q s := fun Γ p i o b => by
  show Q (List.any ((Γ.code, p) :: Γ.below) _) s
  rw [any_ok ?_ (Cb_enter o b)]
  · exact h
  · intro c p ho
    cases c
    case builtin id args =>
      have hn : lentIds.contains id = false := by simpa [okc] using ho
      have hd : Builtin.Bytes.decodersThatHold.contains id = false := by
        cases q : Builtin.Bytes.decodersThatHold.contains id with
        | false => rfl
        | true =>
          have : lentIds.contains id = true := by
            rw [List.contains_iff_mem] at q ⊢
            exact List.mem_append_left _ q
          rw [this] at hn; cases hn
      have ne : ∀ x ∈ (["bytearray.__contains__", "bytearray.__mod__", "bytearray.__rmod__", "_struct.pack_into.held", "bytearray.find.held"] : List String), id ≠ x := fun x hx q => by
        have : lentIds.contains id = true := by rw [List.contains_iff_mem, q]; exact List.mem_append_right _ hx
        rw [this] at hn; cases hn
      have n1 := ne "bytearray.__contains__" (by simp)
      have n2 := ne "bytearray.__mod__" (by simp)
      have n3 := ne "bytearray.__rmod__" (by simp)
      have n4 := ne "_struct.pack_into.held" (by simp)
      have n5 := ne "bytearray.find.held" (by simp)
      obtain ⟨pos, kw⟩ := args
      delta Builtin.Bytes.exported.match_1
      refine (dif_neg n1).trans ?_
      refine (dif_neg n2).trans ?_
      refine (dif_neg n3).trans ?_
      refine (dif_neg n4).trans ?_
      refine (dif_neg n5).trans ?_
      cases pos with
      | nil => rfl
      | cons x r => show (_ && Builtin.Bytes.decodersThatHold.contains id) = false; rw [hd, Bool.and_false]
    all_goals rfl
end
noncomputable abbrev WalkR : Prop := ∀ (w : World) (s₀ s₁ : Shared) (mg mb : Str → Option Value), Ground qv loose row0.records (XL qv []) w s₀ mg mb s₁.heap → hook.says w s₁.heap → s₁.gens = #[] →
  ∀ (args : List WData) (vals : List Value) (as : List Addr), row0.claim.pre args = true → WData.layableAll args = true → ReadsAllW row0.records (classAt s₀.heap) s₁.heap vals args as →
    wpR (model pw w) callerA (PySem.call (.ref 590) vals) (fun v s' => GoodWG row0.claim (classAt s₀.heap) (ExcName.means s₀.heap) args s₁ (.ok (.ret v)) s') s₁
theorem headR (walk : WalkR) : PySem.Challenge.rw_pb0201_01.Holds := by
  refine holds_law wsaid fun said => ?_
  obtain ⟨o1, k5⟩ := Bool.and_eq_true_iff.mp hoks
  obtain ⟨hch, o2⟩ := Bool.and_eq_true_iff.mp o1
  obtain ⟨k5, k6⟩ := Bool.and_eq_true_iff.mp k5
  (wtm_at "pc")
  obtain ⟨hsame, hu, ha, hap, hm⟩ := frees_parts k5
  (wtm_at "pu")
  have hwi : row0.claim.within = [] := List.isEmpty_iff.mp k6
  refine ⟨said, hwit, ⟨hbare, o2, rfl⟩, hwit.witness, fun w => ?_⟩
  have both := left.behind (XP := fun mg h => XL qv [] mg h ∧ RecFacts row0.records h) (fun s e => ⟨xl_of s (Bool.and_eq_true_iff.mp e).1, recFacts_of (Bool.and_eq_true_iff.mp e).2⟩) hch w
  refine ⟨both.1, fun s' hs' => ?_⟩
  (wtm_at "pc")
  obtain ⟨sA, hf, hg0, sB, hT, hz, hgens, hg, G00, y⟩ := both.2 s' hs'
  (wtm_at "pu")
  have RF := G00.X.2
  have G : Ground qv loose row0.records (XL qv []) w sB (sB.heap.nsMap mainGlobals) (sB.heap.nsMap builtinsNs) sB.heap :=
    RF.ground ⟨G00.T, G00.B, G00.D, G00.TE, G00.TD, G00.W, G00.X.1, G00.cls, G00.has, G00.apart, G00.once, G00.K⟩
  have G0 : Ground qv loose [] (XL qv []) w sB (sB.heap.nsMap mainGlobals) (sB.heap.nsMap builtinsNs) sB.heap :=
    ⟨G00.T, G00.B, G00.D, G00.TE, G00.TD, G00.W, G00.X.1, G00.cls, G00.has, G00.apart, G00.once, G00.K⟩
  have hgens : sB.gens = #[] := Array.eq_empty_of_size_eq_zero (beq_iff_eq.mp hgens)
  refine ⟨sA, hf, hg0, sB, hT, fun n hn => ?_, RF.1, RF.2.1, fun args hpre hlay ord hord => ?_⟩
  · obtain rfl : n = row0.name := by split at hn <;> simp_all
    exact pinned_of_view hg G0 hdef hthe hkw
  obtain ⟨⟨vs, sC⟩, hlaid⟩ := Option.isSome_iff_exists.mp (layAllW_isSome (P := w.params) (ord := ord) G.has args row0.args sB (pre_splitW hpre).1)
  have keeps := layAllW_keeps _ _ _ hlaid
  have rest := layAllW_rest _ _ _ hlaid
  (wtm_at "pc")
  obtain ⟨as, hrd, hin, hold⟩ := reads_layAllW hord _ _ _ hlaid hlay sC.heap (fun _ _ e => e)
  (wtm_at "pu")
  have L : Laid row0.records w sB sC args vs as := ⟨⟨ord, hord, hlaid⟩, hrd, hin, hold, keeps, rest.1.trans hgens, rest.2.2.1⟩
  have G₁ := G.keeps XL.keeps keeps
  have Y : hook.says w sC.heap := hook.keeps _ _ _ (hook.of w sB y) keeps
  have hname : sB.heap.nsMap mainGlobals row0.name = some (.ref 590) := mg_of (kIn_of Y) G₁.T.g (gtab_at (p := ("law", .ref 590)) (by decide))
  have walked := walk w sB sC _ _ G₁ Y L.gens args vs as hpre hlay L.reads
  have there : wpR (model pw w) callerA (do match ← nsGet mainNs row0.name with
      | some f => do ret (← PySem.call f vs)
      | none => unsupported "claim.caller:no-such-global") (fun fin s' => ∃ v, fin = .done (.ret v) ∧ GoodWG row0.claim (classAt sB.heap) (ExcName.means sB.heap) args sC (.ok (.ret v)) s') sC := by
    refine wpR_step (wpAny_nsGet G₁.T.g ?_)
    rw [hname]
    exact wpR_bind (wpR_mono walked fun v s' q => wpR_pure ⟨v, rfl, q⟩)
  have ended := there ⟨.builtin "claim.caller" {}, none, none, [], none⟩ default caller_in (by decide +kernel) (fun _ h => nomatch h)
  (wtm_at "pc")
  obtain ⟨k, r, sD, sE, hsched, hrun, hfo, hcase, hos, _⟩ := wp_halts_full (M := model pw w) (t := do match ← nsGet mainNs row0.name with
      | some f => do ret (← PySem.call f vs)
      | none => unsupported "claim.caller:no-such-global")
    (R := fun r s' => row0.claim.Ends sB args vs sC r s' ∧ s'.os = sB.os ∧ (PySem.Challenge.rw_pb0201_01.row.writes = true → namesKept row0.claim.prog PySem.Challenge.rw_pb0201_01.row.keeps sB.heap s'.heap ∧ ∀ x ∈ row0.claim.records, ∀ a, classAt sB.heap x.1 = some a → recordClass s'.heap a x.1 (x.2.map (·.1)) = true))
    (Shared.asleep_of_life rest.2.2.2 hz) (Sem.wp_mono _ _ _ (fun fin p s' q => by
      (wtm_at "pc")
      obtain ⟨v, rfl, g⟩ := q
      (wtm_at "pu")
      have z := g.laid (c := row0.claim) hsame hwi (ident_freeW hu ha hap) L
      exact ⟨⟨z.1, z.2.1, fun q => by cases q⟩, leftWithCleanup_false_of_bare z.2.2⟩) (fun _ _ _ q => q.elim) _ _ ended)
  (wtm_at "pu")
  (wtm_at "pc")
  obtain ⟨eh, _, _, eo, _⟩ := Shared.forget_eq hfo
  (wtm_at "pu")
  have hcase := hcase.congr eh
  rw [← eo] at hos
  have hlife : sE.heap.life = sB.heap.life := (runN_life _ _ _ hrun).trans rest.2.2.2
  refine ⟨vs, sC, hlaid, k, _, sE, hsched, ?_, (fun _ i x hx => by rw [hgens] at hx; simp at hx), (fun q => by cases q), by rw [hlife], Shared.rest_eq hos⟩
  rcases hcase with ⟨v, rfl, d1, d2, d3, d4, d5⟩ | ⟨e, ob, cls, rfl, d1, d2, d3, d4, d5⟩
  · exact .inl ⟨v, rfl, d1, d2, d3, fun b o y _ => d4 b o y, d5⟩
  · exact .inr ⟨e, ob, cls, rfl, d1, d2, d3, d4, fun b o y _ => d5 b o y⟩
section
variable {w : World} {A : Around} {h₀ hb h : Heap} {g : Array GenState} {d : Drawn} {tk : Nat} {os : OsState} {L a : Addr} {mg mb : Str → Option Value} {mean : ExcName → Option Value}
  {ns cns : List Str} {vs : List (Option Value)} {cl : List (Str × Addr)} {gs bs : List (Str × Value)} {news : List (Addr × Obj)} {cn : Str} {cs : Scope} {cd : Value} {x : Str} {pos p' : Pos} {v : Value} {env : Env} {s : Shared}
theorem tree_call {o : Obj} {fd : FuncData} {body : List Stmt} {args : Args} {binds : List (Str × Value)} (hroom : A.depth < recursionLimit) (ho : s.heap.get? a = some o) (hdata : o.data = .func fd) (hlim : s.heap.NoLimit) (hcd : s.heap.CodeRec fd.code fd.qualname)
    (hbody : fd.body = .stmts body) (hbind : BindsTo s fd args binds) (hcell : ∀ x ∈ fd.scope.names, x.2 ≠ .cell) (hloc : ∀ x ∈ binds, fd.scope.names.lookup x.1 = some .local)
    (hco : fd.scope.isCoroutine = false) (hgen : fd.scope.isGenerator = false) (hk : fd.scope.kind = .function) :
    wpAny (Mo w) A (callAny (.ref a) args) (fun fin s' => fin = .again (.func body (callEnv fd s.heap.objs.size a)) ∧ ∃ h₁, s' = { s with heap := h₁, toks := s.toks + binds.length } ∧ h₁.Ns s.heap.objs.size (fun x => binds.reverse.lookup x) ∧ Ext s.heap h₁) (fun _ _ => False) s := by
  unfold callAny
  refine wpAny_bind (wpAny_load ho ?_)
  (wtm_at "pc")
  obtain ⟨c, oc, fs, t, hc, hoc, hdc, hq⟩ := hcd
  (wtm_at "pu")
  rw [hdata]
  show wpAny _ _ (callFunction a fd args) _ _ _
  unfold callFunction
  rw [hc]
  refine wpAny_bind (wpAny_field hoc hdc hq (wpAny_bind (wpAny_pure ?_)))
  refine wpAny_bind (hbind _ _ _ _ ?_)
  refine wpAny_bind (wpAny_newFunctionEnv hcell hloc (fun h₁ hns hsb => ?_) hk)
  refine wpAny_bind (wpAny_enterFrame (hlim.fresh _ hsb) hroom ?_)
  rw [hbody, hgen, hco]
  refine wpAny_pure ⟨?_, h₁, rfl, hns, fun b o e => hsb.extBut b o (Nat.ne_of_lt (Heap.lt_size e)) (Heap.get?_push_of_some _ e)⟩
  unfold callEnv
  rw [hc]
theorem codeR_func {body : List Stmt} {R : Flow → Shared → Prop} (h : wpR (Mo w) (A.deeper env) (execs body env) (fun f s' => R (.ret (match f with | .ret v => v | _ => .none)) s') s) : codeR (Mo w) A (.func body env) R s := by
  refine codeR_tree rfl ?_
  show wpR _ (A.deeper env) (do point; match ← (execs body env).onRaise (leaving env) with | .ret v => ret v | _ => ret .none) _ s
  refine wpR_step (wpAny_point (wpR_bind (wpR_onRaise (wpR_mono h fun f s' h' => ?_))))
  cases f <;> exact wpR_pure h'
theorem callFR {f : Addr} {qual : Str} {body : List Stmt} {cdv : Value} {params : List Str} {vals : List Value} {R : Flow → Shared → Prop} (D : Df w f qual body cs cdv params [] ns gs bs)
    (W : Wd w mg mb mean hb) (kb : Ext hb h) (hnew : ∀ p ∈ news, h.get? p.1 = some p.2 ∧ hb.get? p.1 = none) (hnd : (news.map (·.1)).Nodup) (hroom : A.depth < recursionLimit) (hlen : vals.length = params.length)
    (hbody : ∀ L h₁ tk₁, Wd w mg mb mean (hideAll h (news.map (·.1))) → Ext hb (hideAll h (news.map (·.1))) → Fm (hideAll h (news.map (·.1))) L ns (vals.map some ++ List.replicate (ns.length - params.length) none) news h₁ →
      wpR (Mo w) (A.deeper (envOf qual cs L f cdv)) (execs body (envOf qual cs L f cdv)) (fun fl s' => R (.ret (match fl with | .ret v => v | _ => .none)) s') ⟨h₁, g, d, tk₁, os⟩) :
    codeR (Mo w) A (.call (.ref f) ⟨vals, []⟩) R ⟨h, g, d, tk, os⟩ := by
  (wtm_at "pc")
  obtain ⟨oc, od, name, pr, dV, kV, doc, pm, an, ct, osl, ho, hbind⟩ := D.ho
  (wtm_at "pu")
  have X : (K w.params).In h := W.k.keeps kb
  have hz : ∀ x ∈ params.zip vals, cs.names.lookup x.1 = some .local := fun y hy => by
    have := (List.of_mem_zip (a := y.1) (b := y.2) hy).1
    rw [← (D.pre rfl)] at this
    exact (D.fi.loc _ (List.mem_of_mem_take this)).1
  refine codeR_tree rfl ?_
  show wpR _ A.in1 (callAny (.ref f) ⟨vals, []⟩) _ _
  refine wpR_lift (wpAny_mono (tree_call (A := A.in1) (fd := fnOf name qual pr body cs dV kV doc pm an cdv ct) (body := body) (binds := params.zip vals) hroom (X _ _ ho) rfl ((W.t.nolimit).keeps kb) (codeRec_of X D.cd) rfl
    (hbind ⟨h, g, d, tk, os⟩ vals X hlen) (D.cell rfl) hz D.fi.co D.fi.gen D.fi.kind) ?_ fun _ _ x => x)
  intro fin s' hJ0
  (wtm_at "pc")
  obtain ⟨rfl, h₁, rfl, hns, hk₁⟩ := hJ0
  (wtm_at "pu")
  refine ⟨rfl, codeR_func ?_⟩
  have hfr : ∀ p ∈ news, (hideAll h (news.map (·.1))).get? p.1 = none := fun p hp => hideAll_none _ (List.mem_map_of_mem hp)
  have hx : Ext hb (hideAll h (news.map (·.1))) := fun b o e => hideAll_get _ (kb b o e) fun q => by
    (wtm_at "pc")
    obtain ⟨p, hp, rfl⟩ := List.mem_map.mp q
    (wtm_at "pu")
    rw [(hnew p hp).2] at e; cases e
  refine hbody h.objs.size h₁ _ (W.keeps hx) hx ?_
  refine ⟨⟨_, ⟨hns, fun b o e => hk₁ b o (of_hideAll _ e), Nat.le_of_eq (hideAll_size _ _)⟩, fun i y z hi hv => ?_⟩, fun p hp => ⟨hk₁ _ _ (hnew p hp).1, Nat.ne_of_lt (Heap.lt_size (hnew p hp).1), hfr p hp⟩, hnd⟩
  have hlt : i < vals.length := by
    by_cases q : i < vals.length
    · exact q
    · rw [List.getElem?_append_right (by simp; lia)] at hv
      obtain ⟨_, e⟩ := List.getElem?_eq_some_iff.mp hv
      simp at e
  rw [List.getElem?_append_left (by simpa using hlt), List.getElem?_map] at hv
  have hpn : params.Nodup := by rw [← (D.pre rfl)]; exact D.fi.nd.sublist (List.take_sublist _ _)
  refine zip_lookup (i := i) hpn ?_ ?_
  · rw [← (D.pre rfl), List.getElem?_take]
    rw [if_pos (by lia)]; exact hi
  · cases q : vals[i]? with
    | none => rw [q] at hv; cases hv
    | some o => rw [q] at hv; simpa using hv
theorem R_cons {st : Stmt} {rest : List Stmt} {Q : Flow → Shared → Prop} (h : wpR (Mo w) A (exec st env) (fun f s' => match f with | .next => wpR (Mo w) A (execs rest env) Q s' | f => Q f s') s) : wpR (Mo w) A (execs (st :: rest) env) Q s := by
  rw [execs_cons]
  refine wpR_bind (wpR_mono h fun f s' q => ?_)
  cases f <;> first | exact q | exact wpR_pure q
theorem R_st {st : Stmt} {rest : List Stmt} {Q : Flow → Shared → Prop} (h : wpAny (Mo w) A (exec st env) (fun f s' => f = .next ∧ wpR (Mo w) A (execs rest env) Q s') (fun _ _ => False) s) : wpR (Mo w) A (execs (st :: rest) env) Q s :=
  R_cons (wpR_lift (wpAny_mono h (fun f s' q => by obtain ⟨rfl, q⟩ := q; exact q) fun _ _ x => x))
theorem R_nil {Q : Flow → Shared → Prop} (h : Q .next s) : wpR (Mo w) A (execs [] env) Q s := wpR_pure h
theorem R_assign {value : Expr} {px : Pos} {Q : Flow → Shared → Prop} (h : wpR (Mo w) A (eval value env) (fun v s₁ => wpAny (Mo w) A (storeName env x v) (fun _ s₂ => Q .next s₂) (fun _ _ => False) s₁) s)
    (hs : swapsWith value (some (.Name x px)) pos.line env = pure false := by rfl) : wpR (Mo w) A (exec (.Assign [.Name x px] value pos) env) Q s := by
  rw [exec_Assign_Name env x px value pos hs]
  refine wpR_step (wpAny_standAt (wpR_bind (wpR_mono h fun v s₁ q => ?_)))
  exact wpR_step (wpAny_standAt (wpR_step (wpAny_bindName (wpAny_mono q (fun _ _ q => wpR_pure q) fun _ _ x => x))))
theorem R_expr {e : Expr} {Q : Flow → Shared → Prop} (h : wpR (Mo w) A (eval e env) (fun v s' => v = .none ∧ Q .next s') s) (hi : interactive env = false := by rfl) (hs : swapsWith e none pos.line env = pure false := by rfl) : wpR (Mo w) A (exec (.Expr e pos) env) Q s := by
  rw [exec_Expr env e pos hi hs]
  refine wpR_step (wpAny_standAt (wpR_bind (wpR_mono h fun v s' q => ?_)))
  obtain ⟨rfl, q⟩ := q
  rw [dropValue_plain (fun a e => by cases e)]
  exact wpR_pure q
theorem R_return {e : Expr} {Q : Flow → Shared → Prop} (h : wpR (Mo w) A (eval e env) (fun v s' => Q (.ret v) s') s) : wpR (Mo w) A (exec (.Return (some e) pos) env) Q s := by
  rw [exec_Return_some]
  exact wpR_step (wpAny_standAt (wpR_bind (wpR_mono h fun v s' q => wpR_pure q)))
theorem R_ifexp {test body orelse : Expr} {Q : Value → Shared → Prop} (h : wpAny (Mo w) A (isTrue test env (eval test env)) (fun b s₁ => if b then wpR (Mo w) A (eval body env) Q s₁ else wpR (Mo w) A (eval orelse env) Q s₁) (fun _ _ => False) s) :
    wpR (Mo w) A (eval (.IfExp test body orelse pos) env) Q s := by
  rw [arm_eval_IfExp]
  refine wpR_step (wpAny_mono h (fun b s₁ q => ?_) fun _ _ x => x)
  cases b <;> exact q
theorem R_binop {l r : Expr} {op : Operator} {Q : Value → Shared → Prop} (h : wpR (Mo w) A (eval l env) (fun a s₁ => wpAny (Mo w) A (eval r env) (fun b s₂ => wpAny (Mo w) A (binaryOp op a b) Q (fun _ _ => False) s₂) (fun _ _ => False) s₁) s) :
    wpR (Mo w) A (eval (.BinOp l op r pos) env) Q s := fun Γ p i o b => by
  simp only [eval_BinOp, Sem.wp_bind', Sem.wp_holding, Sem.wp_cmd_standAt, Sem.wp_operate]
  exact Sem.wp_mono _ Γ _ (fun a p₁ s₁ h₁ => Sem.wp_mono _ Γ _ (fun b _ s₂ h₂ => h₂ Γ _ i) (fun _ _ _ h' => h') _ _ (h₁ Γ p₁ i)) (fun _ _ _ h' => h') _ _ (h Γ p i o b)
theorem R_callWith {M : Model} {f : Value} {first : List Value} {args : List (Bool × Sem Value)} {Q : Value → Shared → Prop} {P : Heap → Prop} (hplain : (args.any (·.1) || ([] : List (Option Str × Sem Value)).any (·.1.isNone)) = false)
    (hk : ∀ h, P h → ∃ k, (k = Keeper.frame ∨ k = Keeper.machine ∨ k = Keeper.boundFrame) ∧ Looks M h (keeperOf f) k)
    (h : wpAny M A (evalArgs f true args []) (fun a s₁ => P s₁.heap ∧ a.kw = [] ∧ wpR M A (call f (first ++ a.pos) []) Q s₁) (fun _ _ => False) s) : wpR M A (callWith pos f first args []) Q s := by
  unfold callWith
  refine wpR_step (wpAny_holding (wpAny_mono h (fun a s₁ q => ?_) fun _ _ x => x))
  (wtm_at "pc")
  obtain ⟨hP, hkw, hc⟩ := q
  (wtm_at "pu")
  refine wpR_step (wpAny_standAt ?_)
  (wtm_at "pc")
  obtain ⟨k, hk', lk⟩ := hk _ hP
  (wtm_at "pu")
  simp only [hplain, hkw]
  refine wpR_look lk ?_
  have tail : ∀ {t : Sem Value}, wpR M A t Q s₁ → wpR M A (t >>= fun r => holding [r] point >>= fun _ => pure r) Q s₁ := fun ht =>
    wpR_bind (wpR_mono ht fun r s₂ hr => wpR_step (wpAny_holding (wpAny_point (wpR_pure hr))))
  have marked (mk : Value) : wpR M A (callMarked mk f (first ++ a.pos) []) Q s₁ := by
    unfold callMarked
    intro Γ p i o b
    rw [Sem.wp_keep]; exact hc Γ p i o b
  rcases hk' with rfl | rfl | rfl <;> dsimp only <;> first | exact tail hc | (split <;> first | exact tail hc | exact tail (marked _))
end
noncomputable def Rep : List (Str × Value) → List DictEntry → Prop
  | [], [] => True
  | p :: fs, e :: es => (∃ t, e.key = .str p.1 t) ∧ e.val = p.2 ∧ Rep fs es
  | _, _ => False
noncomputable def setF (x : Str) (v : Value) : List (Str × Value) → List (Str × Value)
  | [] => [(x, v)]
  | p :: r => if p.1 = x then (p.1, v) :: r else p :: setF x v r
theorem Rep.getL : ∀ {fs : List (Str × Value)} {es : List DictEntry} (x : Str), Rep fs es → PySem.W.getL x es = some (fs.lookup x)
  | [], [], _, _ => rfl
  | (k, u) :: fs, ⟨hs, key, val⟩ :: es, x, ⟨⟨t, hk⟩, hv, r⟩ => by
    dsimp only at hk hv; subst hk; subst hv
    have ih := Rep.getL x r
    unfold PySem.W.getL at ih ⊢
    rw [List.lookup_cons, List.find?_cons]
    by_cases q : k = x
    · subst q; simp [Value.isStr]
    · have h1 : (k == x) = false := by simpa using q
      have h2 : (x == k) = false := by simpa using fun e => q e.symm
      have h3 : (Value.str k t).isStr x = false := h1
      rw [h2]
      (try dsimp only)
      rw [h3]
      have h4 : ∀ v, (⟨hs, .str k t, v⟩ : DictEntry).refKey = false := fun _ => rfl
      simp only [List.any_cons, h4, Bool.false_or]
      exact ih
  | [], _ :: _, _, h => h.elim
  | _ :: _, [], _, h => h.elim
theorem Rep.put : ∀ {fs : List (Str × Value)} {es : List DictEntry} (x : Str) (hs : Int) (t : Tok) (v : Value), Rep fs es → Rep (setF x v fs) (putL x hs (.str x t) v es)
  | [], [], _, _, t, _, _ => ⟨⟨t, rfl⟩, rfl, trivial⟩
  | (k, u) :: fs, ⟨hs', key, val⟩ :: es, x, hs, t, v, ⟨⟨t', hk⟩, hv, r⟩ => by
    dsimp only at hk hv; subst hk; subst hv
    unfold setF putL
    by_cases q : k = x
    · subst q
      rw [if_pos rfl, if_pos (by simp [Value.isStr])]
      exact ⟨⟨t', rfl⟩, rfl, r⟩
    · rw [if_neg q, if_neg (by simpa [Value.isStr] using q)]
      exact ⟨⟨t', rfl⟩, rfl, Rep.put x hs t v r⟩
  | [], _ :: _, _, _, _, _, h => h.elim
  | _ :: _, [], _, _, _, _, h => h.elim
theorem Rep.length : ∀ {fs : List (Str × Value)} {es : List DictEntry}, Rep fs es → es.length = fs.length
  | [], [], _ => rfl
  | _ :: _, _ :: _, ⟨_, _, r⟩ => by rw [List.length_cons, List.length_cons, Rep.length r]
  | [], _ :: _, h => h.elim
  | _ :: _, [], h => h.elim
noncomputable def At (h : Heap) (x C : Addr) (fs : List (Str × Value)) : Prop := ∃ dx es n, h.get? x = some (instObj C dx) ∧ h.get? dx = some (dictOf es n) ∧ Rep fs es
theorem At.ext {h h' : Heap} {x C : Addr} {fs : List (Str × Value)} (a : At h x C fs) (k : Ext h h') : At h' x C fs :=
  let ⟨dx, es, n, p, q, r⟩ := a; ⟨dx, es, n, k _ _ p, k _ _ q, r⟩
inductive Has : List (Str × Value) → Str → Value → Prop
  | head {x v r} : Has ((x, v) :: r) x v
  | tail {y u x v r} : (x == y) = false → Has r x v → Has ((y, u) :: r) x v
theorem Has.lookup {fs : List (Str × Value)} {x : Str} {v : Value} (h : Has fs x v) : fs.lookup x = some v := by
  induction h with
  | head => simp
  | tail e _ ih => rw [List.lookup_cons, e]; exact ih
noncomputable def aOk (K : Frag) (C : Addr) (x : Str) : Bool :=
  (findIn K (.ref C) "__setattr__" == some (some (.builtin "object.__setattr__"))) && plainOver K C && (takerIn K C x == some none) && hasDictIn K C && plainGet K C x && (findIn K (.ref C) x == some none)
noncomputable def mOk (K : Frag) (C : Addr) (x : Str) (f : Addr) : Bool := plainGet K C x && (findIn K (.ref C) x == some (some (.ref f))) && isFn K (.ref f) && keepIn K (.ref f)
noncomputable abbrev mtab : List (Addr × Str × Addr) := [(180, "need", 118), (180, "number", 125), (180, "u16", 139), (180, "u32", 160), (180, "tag", 165), (272, "u16", 217), (272, "u32", 238), (272, "tag", 243), (272, "rows", 248), (272, "octets", 269), (308, "end", 305), (456, "told", 453)]
theorem mtab_ok (P : Params) : mtab.all (fun p => mOk (K P) p.1 p.2.1 p.2.2) = true := by kernel_rfl
theorem mtab_at {P : Params} {C f : Addr} {x : Str} (h : (C, x, f) ∈ mtab) : mOk (K P) C x f = true := List.all_eq_true.mp (mtab_ok P) _ h
section
variable {w : World} {A : Around} {E : Value → Shared → Prop} {h₀ hb h h' : Heap} {g : Array GenState} {d : Drawn} {tk : Nat} {os : OsState} {L C a x dx : Addr} {mg mb : Str → Option Value} {mean : ExcName → Option Value}
  {ns cns : List Str} {vs : List (Option Value)} {cl : List (Str × Addr)} {gs bs : List (Str × Value)} {news : List (Addr × Obj)} {cs : Scope} {nm : Str} {pos px : Pos} {v : Value} {env : Env} {fs : List (Str × Value)} {es : List DictEntry} {n : Nat}
theorem r_getA {Q : Value → Shared → Prop} {expr : Bool} (W : Wd w mg mb mean h₀) (F : Fm h₀ L ns vs news h) (I : At h x C fs) (hl : Has fs nm v) (hv : handedIn v = true) (hc : aOk (K w.params) C nm = true) (hq : Q v ⟨h, g, d, tk + 1, os⟩) :
    wpAny (Mo w) A (getAttr (.ref x) nm expr) Q E ⟨h, g, d, tk, os⟩ := by
  (wtm_at "pc")
  obtain ⟨dx, es, n, h1, h2, r⟩ := I
  (wtm_at "pu")
  (wtm_at "pc")
  obtain ⟨m, f, _⟩ := F.fr
  (wtm_at "pu")
  simp only [aOk, Bool.and_eq_true, beq_iff_eq] at hc
  obtain ⟨⟨⟨⟨⟨c1, c2⟩, c3⟩, c4⟩, c5⟩, c6⟩ := hc
  exact get_own (ox := instObj C dx) (es := es) (n := n) f W.k ⟨h1, rfl, rfl, h2⟩ c5 c4 c6 rfl (by rw [r.getL, hl.lookup]) hv hq
theorem r_setA {Q : Unit → Shared → Prop} (W : Wd w mg mb mean h₀) (F : Fm h₀ L ns vs ((dx, dictOf es n) :: (x, instObj C dx) :: news) h) (r : Rep fs es) (hf : Nat.ble fs.length 100 = true) (hc : aOk (K w.params) C nm = true)
    (hq : ∀ h' es' n', Rep (setF nm v fs) es' → Fm h₀ L ns vs ((dx, dictOf es' n') :: (x, instObj C dx) :: news) h' → Q () ⟨h', g, d, tk + 2, os⟩) : wpAny (Mo w) A (setAttr (.ref x) nm v) Q E ⟨h, g, d, tk, os⟩ := by
  (wtm_at "pc")
  obtain ⟨m, f, l⟩ := F.fr
  (wtm_at "pu")
  simp only [aOk, Bool.and_eq_true, beq_iff_eq] at hc
  obtain ⟨⟨⟨⟨⟨c1, c2⟩, c3⟩, c4⟩, c5⟩, c6⟩ := hc
  have nd := F.nd
  have hr := r.put nm (PyData.keyHash w.params nm) (tk + 1) v
  have hlen : (putL nm (PyData.keyHash w.params nm) (.str nm (tk + 1)) v es).length ≤ 1000 := by
    have e := hr.length
    have : ∀ fs : List (Str × Value), (setF nm v fs).length ≤ fs.length + 1 := fun fs => by
      induction fs with
      | nil => simp [setF]
      | cons p r ih => unfold setF; split <;> simp <;> lia
    have := this fs
    have hf' := Nat.le_of_ble_eq_true hf
    lia
  refine set_dict (s := ⟨h, g, d, tk, os⟩) (ox := instObj C dx) (dx := dx) (es := es) (n := n) f W.k F.led ⟨F.get (.tail _ (.head _)), rfl, rfl, F.get (.head _)⟩ rfl c1 c2 c3 c4 (by rw [r.getL]; rfl) rfl (.head ?_) hlen fun h' f' N' => ?_
  · intro p hp q
    rw [List.map_cons, List.nodup_cons] at nd
    exact nd.1 (List.mem_map.mpr ⟨p, hp, q⟩)
  · refine hq h' _ _ hr ⟨⟨m, f', fun i y z a b => l i y z a b⟩, N', ?_⟩
    rw [List.map_cons, List.map_cons, List.nodup_cons] at nd ⊢
    exact nd
theorem r_getM {Q : Value × List Value → Shared → Prop} {pl : Sem Bool} {f : Addr} (W : Wd w mg mb mean h₀) (F : Fm h₀ L ns vs news h) (I : At h x C fs) (hl : fs.lookup nm = none) (hc : mOk (K w.params) C nm f = true) (hq : Q (.ref f, [.ref x]) ⟨h, g, d, tk, os⟩) :
    wpAny (Mo w) A (getMethod (.ref x) nm pl) Q E ⟨h, g, d, tk, os⟩ := by
  (wtm_at "pc")
  obtain ⟨dx, es, n, h1, h2, r⟩ := I
  (wtm_at "pu")
  (wtm_at "pc")
  obtain ⟨m, fr, _⟩ := F.fr
  (wtm_at "pu")
  simp only [mOk, Bool.and_eq_true, beq_iff_eq] at hc
  obtain ⟨⟨⟨c1, c2⟩, c3⟩, c4⟩ := hc
  exact method_inst (ox := instObj C dx) (es := es) (n := n) fr W.k ⟨h1, rfl, rfl, h2⟩ c1 c2 c3 (by rw [r.getL, hl]) hq
noncomputable def MethAt (w : World) (nm : Str) (k : Addr → Addr → Heap → Prop) (ov : Value) (s₁ : Shared) : Prop := ∃ x C fs f h₀ L ns vs news mg mb mean, ov = .ref x ∧ Wd w mg mb mean h₀ ∧ Fm h₀ L ns vs news s₁.heap ∧ At s₁.heap x C fs ∧ (C, nm, f) ∈ mtab ∧ fs.lookup nm = none ∧ k x f h₀
theorem MethAt.mk {k : Addr → Addr → Heap → Prop} {f : Addr} {s : Shared} (W : Wd w mg mb mean h₀) (F : Fm h₀ L ns vs news s.heap) (I : At s.heap x C fs) (hc : (C, nm, f) ∈ mtab) (hl : fs.lookup nm = none) (q : k x f h₀) : MethAt w nm k (.ref x) s :=
  ⟨_, _, _, _, _, _, _, _, _, _, _, _, rfl, W, F, I, hc, hl, q⟩
theorem r_callM {Q : Value → Shared → Prop} {o e : Expr} {as : List Expr} {apos : Pos}
    (h : wpAny (Mo w) A (eval o env) (fun ov s₁ => MethAt w nm (fun x f h₀ => wpAny (Mo w) A (spliced (backTo pos (starEach (e :: as) env))) (fun ws s₂ => Ext h₀ s₂.heap ∧ wpAny (Mo w) A (call (.ref f) (.ref x :: ws)) Q E s₂) E s₁) ov s₁) E s)
    (he : eval (.Call (.Attribute o nm apos) (e :: as) [] pos) env = (do
      let ov ← eval o env
      standAt apos.atName
      let (f, first) ← holding [ov] (getMethod ov nm pl)
      callWith pos f first (backTo pos (starEach (e :: as) env)) (backToKw pos (keywordEach [] env))) := by rfl)
    (hse : starEach (e :: as) env = (false, eval e env) :: starEach as env := by rfl) (hp : (backTo pos (starEach as env)).any (·.1) = false := by rfl) :
    wpAny (Mo w) A (eval (.Call (.Attribute o nm apos) (e :: as) [] pos) env) Q E s := by
  refine methodCall_KW (wpAny_mono h (fun ov s₁ q => ?_) fun _ _ x => x) he
  (wtm_at "pc")
  obtain ⟨x, C, fs, f, h₀, L, ns, vs, news, mg, mb, mean, rfl, W, F, I, hc, hl, q⟩ := q
  (wtm_at "pu")
  replace hc := mtab_at (P := w.params) hc
  (wtm_at "pc")
  obtain ⟨h₁, g₁, d₁, tk₁, os₁⟩ := s₁
  (wtm_at "pu")
  refine r_getM W F I hl hc ?_
  simp only [mOk, Bool.and_eq_true] at hc
  exact callWith_K (first := [.ref x]) W.k hc.2 (wpAny_mono q (fun ws s₂ q => ⟨W.k.keeps q.1, q.2⟩) fun _ _ x => x) hse hp
theorem r_callM0 {Q : Value → Shared → Prop} {o : Expr} {apos : Pos}
    (h : wpAny (Mo w) A (eval o env) (fun ov s₁ => MethAt w nm (fun x f _ => wpAny (Mo w) A (call (.ref f) [.ref x]) Q E s₁) ov s₁) E s)
    (he : eval (.Call (.Attribute o nm apos) [] [] pos) env = (do
      let ov ← eval o env
      standAt apos.atName
      let (f, first) ← holding [ov] (getMethod ov nm pl)
      callWith pos f first (backTo pos (starEach [] env)) (backToKw pos (keywordEach [] env))) := by rfl) :
    wpAny (Mo w) A (eval (.Call (.Attribute o nm apos) [] [] pos) env) Q E s := by
  refine methodCall_KW (wpAny_mono h (fun ov s₁ q => ?_) fun _ _ x => x) he
  (wtm_at "pc")
  obtain ⟨x, C, fs, f, h₀, L, ns, vs, news, mg, mb, mean, rfl, W, F, I, hc, hl, q⟩ := q
  (wtm_at "pu")
  replace hc := mtab_at (P := w.params) hc
  (wtm_at "pc")
  obtain ⟨h₁, g₁, d₁, tk₁, os₁⟩ := s₁
  (wtm_at "pu")
  refine r_getM W F I hl hc ?_
  simp only [mOk, Bool.and_eq_true] at hc
  exact callWith_K0 (first := [.ref x]) (W.k.keeps F.keep) hc.2 q
theorem under_make {rest : List Value} {n : Nat} (R : Rm (n + 1) A) : Rm n (A.under (.builtin "type.__call__" ⟨.ref C :: rest, []⟩)) := by
  have e1 : (Code.builtin "type.__call__" ⟨.ref C :: rest, []⟩).weight = 1 := by kernel_rfl
  have e2 : (Code.builtin "type.__call__" ⟨.ref C :: rest, []⟩).cUnits = 1 := by kernel_rfl
  have a := R.dep; have b := R.uni
  constructor
  · show A.depth + _ + n < _; rw [e1]; lia
  · show A.units + _ + 8 * n < _; rw [e2]; lia
theorem r_make {rest : List Value} {fI : Addr} {Q : Value → Shared → Prop} (W : Wd w mg mb mean h) (hm : makesIn (K w.params) C = true) (hi : findIn (K w.params) (.ref C) "__init__" = some (some (.ref fI))) (hf : typeIn (K w.params) (.ref fI) = some (.type "function"))
    (hq : codeAny (Mo w) (A.under (.builtin "type.__call__" ⟨.ref C :: rest, []⟩)) (.call (.ref fI) ⟨.ref (h.objs.size + 1) :: rest, []⟩)
      (fun r s' => match r with | .ok (.ret v) => v = .none ∧ Q (.ref (h.objs.size + 1)) s' | .ok _ => False | .error e => E e s') ⟨(h.push emptyDict).push (instObj C h.objs.size), g, d, tk, os⟩) :
    wpAny (Mo w) A (call (.ref C) rest) Q E ⟨h, g, d, tk, os⟩ := by
  refine wpAny_call (make_core (makes_of W.k hm) (looks_findIn W.k hi) (fun self => bind_fn W.k self hf) (.inl rfl) (codeAny_mono hq fun r s' q => ?_))
  match r, q with
  | .ok (.ret v), q => exact q
  | .error e, q => exact q
theorem made_news : ∀ p ∈ [(h.objs.size, emptyDict), (h.objs.size + 1, instObj C h.objs.size)], ((h.push emptyDict).push (instObj C h.objs.size)).get? p.1 = some p.2 ∧ h.get? p.1 = none := by
  intro p hp
  rcases List.mem_cons.mp hp with rfl | hp
  · exact ⟨Heap.get?_push_of_some _ (Heap.get?_push_size _ rfl), Heap.get?_none_of_le (Nat.le_refl _)⟩
  · obtain rfl := List.mem_singleton.mp hp
    refine ⟨?_, Heap.get?_none_of_le (Nat.le_succ _)⟩
    have := Heap.get?_push_size (h.push emptyDict) (o := instObj C h.objs.size) rfl
    rwa [Heap.size_push] at this
theorem made_ext : Ext h ((h.push emptyDict).push (instObj C h.objs.size)) := fun b o e => Heap.get?_push_of_some _ (Heap.get?_push_of_some _ e)
theorem made_nodup : ([(h.objs.size, emptyDict), (h.objs.size + 1, instObj C h.objs.size)].map (·.1)).Nodup := by simp
end
section
variable {w : World} {A : Around} {E : Value → Shared → Prop} {h₀ hb hb' h h' : Heap} {g : Array GenState} {d : Drawn} {tk : Nat} {os : OsState} {L C a x dx : Addr} {mg mb : Str → Option Value} {mean : ExcName → Option Value}
  {ns cns : List Str} {vs : List (Option Value)} {cl : List (Str × Addr)} {gs bs : List (Str × Value)} {news : List (Addr × Obj)} {cs : Scope} {nm : Str} {pos px : Pos} {v : Value} {env : Env} {fs : List (Str × Value)} {es : List DictEntry} {n : Nat}
theorem Fm.base (F : Fm hb' L ns vs news h) (k : Ext hb hb') (hs : hb.objs.size ≤ hb'.objs.size) : Fm hb L ns vs news h := by
  (wtm_at "pc")
  obtain ⟨m, f, l⟩ := F.fr
  (wtm_at "pu")
  refine ⟨⟨m, ⟨f.ns, fun b o e => f.keep b o (k b o e), Nat.le_trans hs f.above⟩, l⟩, fun p hp => ?_, F.nd⟩
  (wtm_at "pc")
  obtain ⟨p1, p2, p3⟩ := F.led p hp
  (wtm_at "pu")
  refine ⟨p1, p2, ?_⟩
  cases z : hb.get? p.1 with
  | none => rfl
  | some o => rw [k _ _ z] at p3; cases p3
theorem hide_ext (kb : Ext hb h) (hnew : ∀ p ∈ news, hb.get? p.1 = none) : Ext hb (hideAll h (news.map (·.1))) := fun b o e => hideAll_get _ (kb b o e) fun q => by
  (wtm_at "pc")
  obtain ⟨p, hp, rfl⟩ := List.mem_map.mp q
  (wtm_at "pu")
  rw [hnew p hp] at e; cases e
theorem inst_back {o o' : Obj} {more : List (Addr × Obj)} {news' : List (Addr × Obj)} (hn : news'.map (·.1) = [dx, x]) (F : Fm (hideAll h (news'.map (·.1))) L ns vs ((dx, o') :: (x, o) :: more) h') (hx : h.get? x = some o) : Heap.ExtBut dx h h' ∧ h'.get? dx = some o' := by
  refine ⟨fun b ob hb e => ?_, F.get (.head _)⟩
  by_cases q : b = x
  · subst q; rw [hx] at e; cases e; exact F.get (.tail _ (.head _))
  · refine F.keep _ _ (hideAll_get _ e ?_)
    rw [hn]; simp [hb, q]
theorem r_new {fI : Addr} {qual : Str} {body : List Stmt} {cdv : Value} {params : List Str} {rest : List Value} {Q : Value → Shared → Prop} (fs : List (Str × Value)) (D : Df w fI qual body cs cdv params [] ns gs bs) (W : Wd w mg mb mean h) {r : Nat} (R : Rm (r + 2) A)
    (hm : makesIn (K w.params) C = true) (hi : findIn (K w.params) (.ref C) "__init__" = some (some (.ref fI))) (hf : typeIn (K w.params) (.ref fI) = some (.type "function")) (hlen : rest.length + 1 = params.length)
    (hbody : ∀ A' x dx L h₁ tk₁ Q', Rm r A' → A'.handled = A.handled → Fm h L ns ((.ref x :: rest).map some ++ List.replicate (ns.length - params.length) none) [(dx, dictOf [] 0), (x, instObj C dx)] h₁ →
      (∀ h' es n tk' vs more, Fm h L ns vs ((dx, dictOf es n) :: (x, instObj C dx) :: more) h' → Rep fs es → Q' Flow.next ⟨h', g, d, tk', os⟩) →
      wpAny (Mo w) A' (execs body (envOf qual cs L fI cdv)) Q' (fun _ _ => False) ⟨h₁, g, d, tk₁, os⟩)
    (hq : ∀ h' x dx es n tk', Ext h h' → (∀ p ∈ [(dx, dictOf es n), (x, instObj C dx)], h'.get? p.1 = some p.2 ∧ h.get? p.1 = none) → dx ≠ x → Rep fs es → Q (.ref x) ⟨h', g, d, tk', os⟩) :
    wpAny (Mo w) A (call (.ref C) rest) Q E ⟨h, g, d, tk, os⟩ := by
  refine r_make W hm hi hf ?_
  have R1 := under_make (C := C) (rest := rest) R
  refine callF (news := [(h.objs.size, emptyDict), (h.objs.size + 1, instObj C h.objs.size)]) D W made_ext made_news made_nodup R1.room (by simpa using hlen) fun L h₁ tk₁ W₀ kx F => ?_
  have F' := F.base kx (by rw [hideAll_size, Heap.size_push, Heap.size_push]; lia)
  refine wpAny_mono (hbody _ _ _ L h₁ tk₁ _ (R1.deep) rfl F' fun h' es n tk' vs more G rep => ?_) (fun _ _ q => q) fun _ _ q => q.elim
  refine ⟨rfl, hq h' _ _ es n tk' G.keep (fun p hp => ?_) (Nat.ne_of_lt (Nat.lt_succ_self _)) rep⟩
  have hp' : p ∈ (h.objs.size, dictOf es n) :: (h.objs.size + 1, instObj C h.objs.size) :: more := by
    rcases List.mem_cons.mp hp with rfl | q
    · exact .head _
    · obtain rfl := List.mem_singleton.mp q; exact .tail _ (.head _)
  exact ⟨G.get hp', (G.led _ hp').2.2⟩
noncomputable abbrev tpO (xs : List Value) : Obj := { cls := .type "tuple", data := .seq xs.toArray }
theorem r_newT {xs : List Value} {Q : Value → Shared → Prop} (F : Fm h₀ L ns vs news h) (hl : Nat.ble xs.length 1000 = true) (hq : ∀ a h', Fm h₀ L ns vs ((a, tpO xs) :: news) h' → Fm h₀ L ns vs news h' → h'.get? a = some (tpO xs) → Ext h h' → Q (.ref a) ⟨h', g, d, tk, os⟩) :
    wpAny (Mo w) A (newTuple xs) Q E ⟨h, g, d, tk, os⟩ :=
  wpAny_newTuple (hq _ _ (F.push _) ((F.push _).drop (.cons _ (.refl _))) (Heap.get?_push_size _ rfl) fun b o e => Heap.get?_push_of_some _ e) (by have := Nat.le_of_ble_eq_true hl; rw [sizeLine_eq]; lia)
theorem r_newL {xs : List Value} {Q : Value → Shared → Prop} (F : Fm h₀ L ns vs news h) (hl : Nat.ble xs.length 1000 = true) (hq : ∀ a h', Fm h₀ L ns vs ((a, lsO xs 0) :: news) h' → Ext h h' → Q (.ref a) ⟨h', g, d, tk, os⟩) :
    wpAny (Mo w) A (newList xs) Q E ⟨h, g, d, tk, os⟩ :=
  wpAny_newObj_type (hq _ _ (F.push _) fun b o e => Heap.get?_push_of_some _ e) (by have := Nat.le_of_ble_eq_true hl; show xs.toArray.size ≤ sizeLine; rw [List.size_toArray, sizeLine_eq]; lia)
end
noncomputable def kOf (cs : Scope) (x : Str) : Option NameKind := cs.names.lookup x
noncomputable def kindOk (cs : Scope) (params : List Str) : Bool := params.all (fun x => cs.names.lookup x == some .local || cs.names.lookup x == some .cell) && decide ((cellsFrom 0 cs.names []).map (·.1)).Nodup
section
variable {w : World} {A : Around} {E : Value → Shared → Prop} {h₀ hb h : Heap} {g : Array GenState} {d : Drawn} {tk : Nat} {os : OsState} {L a : Addr} {mg mb : Str → Option Value} {mean : ExcName → Option Value}
  {ns cns : List Str} {vs : List (Option Value)} {cl : List (Str × Addr)} {gs bs : List (Str × Value)} {news : List (Addr × Obj)} {cn : Str} {cs : Scope} {cd : Value} {x : Str} {pos p' : Pos} {v : Value} {env : Env} {s : Shared}
theorem tree_callC {o : Obj} {fd : FuncData} {body : List Stmt} {args : Args} {binds : List (Str × Value)} (hroom : A.depth < recursionLimit) (ho : s.heap.get? a = some o) (hdata : o.data = .func fd) (hlim : s.heap.NoLimit) (hcd : s.heap.CodeRec fd.code fd.qualname)
    (hbody : fd.body = .stmts body) (hbind : BindsTo s fd args binds) (hclo : fd.closure = [])
    (hkind : ∀ x ∈ binds, fd.scope.names.lookup x.1 = some .local ∨ (fd.scope.names.lookup x.1 = some .cell ∧ ((cellsFrom (s.heap.objs.size + 1) fd.scope.names []).lookup x.1).isSome = true))
    (hco : fd.scope.isCoroutine = false) (hgen : fd.scope.isGenerator = false) (hk : fd.scope.kind = .function) :
    wpAny (Mo w) A (callAny (.ref a) args) (fun fin s' => fin = .again (.func body (callEnvC fd s.heap.objs.size a)) ∧ InCallC s s.heap.objs.size (bindL (callEnvC fd s.heap.objs.size a).kindOf binds fun _ => none) (callEnvC fd s.heap.objs.size a).cells (bindC (callEnvC fd s.heap.objs.size a).kindOf binds fun _ => none) s') (fun _ _ => False) s := by
  unfold callAny
  refine wpAny_bind (wpAny_load ho ?_)
  (wtm_at "pc")
  obtain ⟨c, oc, fs, t, hc, hoc, hdc, hq⟩ := hcd
  (wtm_at "pu")
  rw [hdata]
  show wpAny _ _ (callFunction a fd args) _ _ _
  unfold callFunction
  rw [hc]
  refine wpAny_bind (wpAny_field hoc hdc hq (wpAny_bind (wpAny_pure ?_)))
  refine wpAny_bind (hbind _ _ _ _ ?_)
  rw [hclo]
  refine wpAny_bind (wpAny_newFunctionEnv_cells hk hkind fun env he s' X => ?_)
  refine wpAny_bind (wpAny_enterFrame (hlim.keeps X.toInCall.keep) hroom ?_)
  rw [hbody, hgen, hco]
  have e : callEnvC fd s.heap.objs.size a = env := by rw [he]; unfold callEnvC; rw [hc]
  refine wpAny_pure ⟨by rw [e], ?_⟩
  rw [e]
  have : env.locals = s.heap.objs.size := by rw [he]; rfl
  rw [← this]; exact X
theorem enterC {fd : FuncData} {vals : List Value} {params : List Str} {s' : Shared} (hk : kindOk cs params = true) (hcs : fd.scope = cs) (vs₀ : List (Option Value))
    (hnew : ∀ p ∈ news, h.get? p.1 = some p.2) (hnd : (news.map (·.1)).Nodup)
    (hvs : ∀ (i : Nat) (y : Str) (v : Value), ns[i]? = some y → vs₀[i]? = some (some v) → bindL (kOf cs) (params.zip vals) (fun _ => none) y = some v)
    (X : InCallC ⟨h, g, d, tk, os⟩ h.objs.size (bindL (callEnvC fd h.objs.size a).kindOf (params.zip vals) fun _ => none) (callEnvC fd h.objs.size a).cells (bindC (callEnvC fd h.objs.size a).kindOf (params.zip vals) fun _ => none) s') :
    ∃ h₁ tk₁ cells, s' = ⟨h₁, g, d, tk₁, os⟩ ∧ CellsAre (bindC (kOf cs) (params.zip vals) fun _ => none) (cellsFrom (h.objs.size + 1) cs.names []) cells ∧ Fm (hideAll h (news.map (·.1))) h.objs.size ns vs₀ (cells ++ news) h₁ := by
  subst hcs
  simp only [kindOk, Bool.and_eq_true, decide_eq_true_eq] at hk
  (wtm_at "pc")
  obtain ⟨h₁, tk₁, rfl, hk₁⟩ := X.done
  (wtm_at "pu")
  (wtm_at "pc")
  obtain ⟨cells, NC, Y⟩ := Cl.news (h₀ := h) (Nat.le_refl _) fun n c hm => ⟨X.cell n c (lookup_of_mem_nodup (cellsFrom_names fd.scope.names 0 (h.objs.size + 1) [] [] rfl ▸ hk.2) hm), X.above n c hm⟩
  (wtm_at "pu")
  have hcn : (cells.map (·.1)).Nodup := by
    have ap : (cellsFrom (h.objs.size + 1) fd.scope.names []).Pairwise fun x y => x.2 ≠ y.2 := X.apart
    have : ∀ {cm : Str → Option Value} {l : List (Str × Addr)} {c : List (Addr × Obj)}, CellsAre cm l c → c.map (·.1) = l.map (·.2) := fun q => by
      induction q with
      | nil => rfl
      | cons _ _ ih => simp [ih]
    rw [this Y, List.Nodup, List.pairwise_map]
    exact ap
  refine ⟨h₁, tk₁, cells, rfl, Y, ⟨⟨_, ⟨X.toInCall.ns, fun b o e => hk₁ b o (of_hideAll _ e), Nat.le_of_eq (hideAll_size _ _)⟩, fun i y z hi hv => hvs i y z hi hv⟩, fun p hp => ?_, ?_⟩⟩
  · rcases List.mem_append.mp hp with q | q
    · refine ⟨(NC p q).1, (NC p q).2.1, ?_⟩
      cases z : (hideAll h (news.map (·.1))).get? p.1 with
      | none => rfl
      | some o => have := of_hideAll _ z; rw [(NC p q).2.2] at this; cases this
    · exact ⟨hk₁ _ _ (hnew p q), Nat.ne_of_lt (Heap.lt_size (hnew p q)), hideAll_none _ (List.mem_map_of_mem q)⟩
  · rw [List.map_append, List.nodup_append]
    refine ⟨hcn, hnd, fun b hb c hc e => ?_⟩
    (wtm_at "pc")
    obtain ⟨p, hp, rfl⟩ := List.mem_map.mp hb
    (wtm_at "pu")
    (wtm_at "pc")
    obtain ⟨q, hq, rfl⟩ := List.mem_map.mp hc
    (wtm_at "pu")
    have := hnew q hq
    rw [← e, (NC p hp).2.2] at this; cases this
theorem callFC {f : Addr} {qual : Str} {body : List Stmt} {cdv : Value} {params : List Str} {vals : List Value} {R : Result → Shared → Prop} (D : Df w f qual body cs cdv params cns ns gs bs) (hk : kindOk cs params = true) (vs₀ : List (Option Value))
    (W : Wd w mg mb mean hb) (kb : Ext hb h) (hnew : ∀ p ∈ news, h.get? p.1 = some p.2 ∧ hb.get? p.1 = none) (hnd : (news.map (·.1)).Nodup) (hroom : A.depth < recursionLimit) (hlen : vals.length = params.length)
    (hvs : ∀ (i : Nat) (y : Str) (v : Value), ns[i]? = some y → vs₀[i]? = some (some v) → bindL (kOf cs) (params.zip vals) (fun _ => none) y = some v)
    (hbody : ∀ L h₁ tk₁ cells, Wd w mg mb mean (hideAll h (news.map (·.1))) → Ext hb (hideAll h (news.map (·.1))) → CellsAre (bindC (kOf cs) (params.zip vals) fun _ => none) (cellsFrom (L + 1) cs.names []) cells → Fm (hideAll h (news.map (·.1))) L ns vs₀ (cells ++ news) h₁ →
      wpAny (Mo w) (A.deeper (envOfC qual cs L f cdv)) (execs body (envOfC qual cs L f cdv)) (fun fl s' => R (.ok (.ret (match fl with | .ret v => v | _ => .none))) s')
        (fun e s' => wpAny (Mo w) (A.deeper (envOfC qual cs L f cdv)) (leaving (envOfC qual cs L f cdv) e) (fun _ s'' => R (.error e) s'') (fun e' s'' => R (.error e') s'') s') ⟨h₁, g, d, tk₁, os⟩) :
    codeAny (Mo w) A (.call (.ref f) ⟨vals, []⟩) R ⟨h, g, d, tk, os⟩ := by
  (wtm_at "pc")
  obtain ⟨oc, od, name, pr, dV, kV, doc, pm, an, ct, osl, ho, hbind⟩ := D.ho
  (wtm_at "pu")
  have X : (K w.params).In h := W.k.keeps kb
  have hkind : ∀ x ∈ params.zip vals, cs.names.lookup x.1 = some .local ∨ (cs.names.lookup x.1 = some .cell ∧ ((cellsFrom (h.objs.size + 1) cs.names []).lookup x.1).isSome = true) := by
    refine kindsX (List.all_eq_true.mpr fun y hy => ?_) _
    simp only [kindOk, Bool.and_eq_true] at hk
    exact List.all_eq_true.mp hk.1 _ (List.of_mem_zip (a := y.1) (b := y.2) hy).1
  refine codeAny_of_tree ?_
  show wpAny _ A.in1 (callAny (.ref f) ⟨vals, []⟩) _ _ _
  refine wpAny_mono (tree_callC (A := A.in1) (fd := fnOf name qual pr body cs dV kV doc pm an cdv ct) (body := body) (binds := params.zip vals) hroom (X _ _ ho) rfl ((W.t.nolimit).keeps kb) (codeRec_of X D.cd) rfl
    (hbind ⟨h, g, d, tk, os⟩ vals X hlen) rfl hkind D.fi.co D.fi.gen D.fi.kind) ?_ fun _ _ x => x.elim
  intro fin s' hJ0
  (wtm_at "pc")
  obtain ⟨rfl, I⟩ := hJ0
  (wtm_at "pu")
  refine ⟨rfl, codeAny_func ?_⟩
  (wtm_at "pc")
  obtain ⟨h₁, tk₁, cells, rfl, Y, F⟩ := enterC (fd := fnOf name qual pr body cs dV kV doc pm an cdv ct) hk rfl vs₀ (fun p hp => (hnew p hp).1) hnd hvs I
  (wtm_at "pu")
  have hx := hide_ext kb fun p hp => (hnew p hp).2
  exact hbody h.objs.size h₁ tk₁ cells (W.keeps hx) hx Y F
theorem callFCR {f : Addr} {qual : Str} {body : List Stmt} {cdv : Value} {params : List Str} {vals : List Value} {R : Flow → Shared → Prop} (D : Df w f qual body cs cdv params cns ns gs bs) (hk : kindOk cs params = true) (vs₀ : List (Option Value))
    (W : Wd w mg mb mean h) (hroom : A.depth < recursionLimit) (hlen : vals.length = params.length)
    (hvs : ∀ (i : Nat) (y : Str) (v : Value), ns[i]? = some y → vs₀[i]? = some (some v) → bindL (kOf cs) (params.zip vals) (fun _ => none) y = some v)
    (hbody : ∀ L h₁ tk₁ cells, CellsAre (bindC (kOf cs) (params.zip vals) fun _ => none) (cellsFrom (L + 1) cs.names []) cells → Fm h L ns vs₀ cells h₁ →
      wpR (Mo w) (A.deeper (envOfC qual cs L f cdv)) (execs body (envOfC qual cs L f cdv)) (fun fl s' => R (.ret (match fl with | .ret v => v | _ => .none)) s') ⟨h₁, g, d, tk₁, os⟩) :
    codeR (Mo w) A (.call (.ref f) ⟨vals, []⟩) R ⟨h, g, d, tk, os⟩ := by
  (wtm_at "pc")
  obtain ⟨oc, od, name, pr, dV, kV, doc, pm, an, ct, osl, ho, hbind⟩ := D.ho
  (wtm_at "pu")
  have hkind : ∀ x ∈ params.zip vals, cs.names.lookup x.1 = some .local ∨ (cs.names.lookup x.1 = some .cell ∧ ((cellsFrom (h.objs.size + 1) cs.names []).lookup x.1).isSome = true) := by
    refine kindsX (List.all_eq_true.mpr fun y hy => ?_) _
    simp only [kindOk, Bool.and_eq_true] at hk
    exact List.all_eq_true.mp hk.1 _ (List.of_mem_zip (a := y.1) (b := y.2) hy).1
  refine codeR_tree rfl ?_
  show wpR _ A.in1 (callAny (.ref f) ⟨vals, []⟩) _ _
  refine wpR_lift (wpAny_mono (tree_callC (A := A.in1) (fd := fnOf name qual pr body cs dV kV doc pm an cdv ct) (body := body) (binds := params.zip vals) hroom (W.k _ _ ho) rfl W.t.nolimit (codeRec_of W.k D.cd) rfl
    (hbind ⟨h, g, d, tk, os⟩ vals W.k hlen) rfl hkind D.fi.co D.fi.gen D.fi.kind) ?_ fun _ _ x => x)
  intro fin s' hJ0
  (wtm_at "pc")
  obtain ⟨rfl, I⟩ := hJ0
  (wtm_at "pu")
  refine ⟨rfl, codeR_func ?_⟩
  (wtm_at "pc")
  obtain ⟨h₁, tk₁, cells, rfl, Y, F⟩ := enterC (news := []) (fd := fnOf name qual pr body cs dV kV doc pm an cdv ct) hk rfl vs₀ (fun _ h => nomatch h) (by simp) hvs I
  (wtm_at "pu")
  rw [List.append_nil] at F
  exact hbody h.objs.size h₁ tk₁ cells Y (F.base (fun b o e => hideAll_get _ e (by simp)) (by rw [hideAll_size]; exact Nat.le_refl _))
theorem callPC {f : Addr} {qual : Str} {body : List Stmt} {cdv : Value} {params : List Str} {vals : List Value} {Q : Value → Shared → Prop} (D : Df w f qual body cs cdv params cns ns gs bs) (hk : kindOk cs params = true) (vs₀ : List (Option Value))
    (W : Wd w mg mb mean h) (hroom : A.depth < recursionLimit) (hlen : vals.length = params.length)
    (hvs : ∀ (i : Nat) (y : Str) (v : Value), ns[i]? = some y → vs₀[i]? = some (some v) → bindL (kOf cs) (params.zip vals) (fun _ => none) y = some v)
    (hbody : ∀ L h₁ tk₁ cells, CellsAre (bindC (kOf cs) (params.zip vals) fun _ => none) (cellsFrom (L + 1) cs.names []) cells → Fm h L ns vs₀ cells h₁ →
      wpAny (Mo w) (A.deeper (envOfC qual cs L f cdv)) (execs body (envOfC qual cs L f cdv)) (fun fl s' => Q (match fl with | .ret v => v | _ => .none) s') (fun _ _ => False) ⟨h₁, g, d, tk₁, os⟩) :
    wpAny (Mo w) A (call (.ref f) vals) Q E ⟨h, g, d, tk, os⟩ :=
  wpAny_call (callFC (news := []) D hk vs₀ W Ext.rfl (fun _ h => nomatch h) (by simp) hroom hlen hvs fun L h₁ tk₁ cells W₀ _ Y F =>
    wpAny_mono (hbody L h₁ tk₁ cells Y (by rw [List.append_nil] at F; exact F.base (fun b o e => hideAll_get _ e (by simp)) (by rw [hideAll_size]; exact Nat.le_refl _))) (fun _ _ q => q) fun _ _ q => q.elim)
theorem r_free {Q : Value → Shared → Prop} {c : Addr} (e : En env L cs cl) (I : Fi cs ns cns gs bs) (l : cs.names.lookup x = some .free) (hc : cl.lookup x = some c) (hi : h.IsCell c (some v)) (h1 : (x == ("__debug__" : Str)) = false) (h2 : (x == ("__classdict__" : Str)) = false) (hq : Q v ⟨h, g, d, tk, os⟩) :
    wpAny (Mo w) A (eval (.Name x pos) env) Q E ⟨h, g, d, tk, os⟩ :=
  wpAny_Name (wpAny_loadName_free (e.kind I) (e.of l) (by rw [e.ce]; exact hc) hi hq h2) h1
end
section
variable {w : World} {A : Around} {E : Value → Shared → Prop} {h₀ hb h : Heap} {g : Array GenState} {d : Drawn} {tk : Nat} {os : OsState} {L a : Addr} {mg mb : Str → Option Value} {mean : ExcName → Option Value}
  {ns cns : List Str} {vs : List (Option Value)} {cl : List (Str × Addr)} {gs bs : List (Str × Value)} {news : List (Addr × Obj)} {cs : Scope} {x : Str} {pos px : Pos} {v : Value} {env : Env} {s : Shared}
noncomputable def compTail (w : World) (A : Around) (E : Value → Shared → Prop) (elt : Expr) (px : Pos) (x : Str) (iter : Expr) (ifs : List Expr) (scope : Scope) (pos : Pos) (clo : List (Str × Addr)) (env : Env) (use : Option (Value → Sem Unit)) (Q : Value → Shared → Prop) (it : Value) (s₂ : Shared) : Prop :=
  wpAny (Mo w) A (newList []) (fun acc s₃ => wpAny (Mo w) A (newFunctionEnv scope env.globals clo [] env.qual none .none (some env)) (fun cenv s₄ =>
      codeAny (Mo w) A (.compStart (.ListComp elt [⟨.Name x px, iter, ifs, 0⟩] scope pos) 0 it acc { cenv with scope := relabel scope env }) (compPost (Mo w) A E use Q acc cenv.locals) s₄) E s₃) E s₂
theorem r_lcomp {elt iter : Expr} {ifs : List Expr} {scope : Scope} {Q : Value → Shared → Prop} (clo : List (Str × Addr))
    (h : wpAny (Mo w) A (eval iter env) (fun xv s₁ => wpAny (Mo w) A (pyIter xv) (compTail w A E elt px x iter ifs scope pos clo env none Q) E s₁) E s)
    (hclos : closureFor scope env = pure clo) (hkind : scope.kind = .function) (hnames : ∀ x ∈ scope.names, x.2 = .local → scope.names.lookup x.1 = some .local) (hs : ∀ y, foldedSetIterable iter env y = pure y := by intro _; rfl) :
    wpAny (Mo w) A (eval (.ListComp elt [⟨.Name x px, iter, ifs, 0⟩] scope pos) env) Q E s := by
  rw [arm_eval_ListComp]
  exact wpAny_comprehension_free (cl := clo) rfl hs hclos hkind hnames h
theorem comp_fin {I : Addr} {fp : List Addr} {n : Nat} {P : Nat → Value → Prop} {St : Nat → Heap → Prop} {Q : Value → Shared → Prop} {elt iter : Expr} {ifs : List Expr} {scope : Scope} {oI : Obj}
    {csC : Scope} {nsC cnsC : List Str} {gsC bsC : List (Str × Value)} {clo : List (Str × Addr)} (ix : Nat)
    (en : En env L cs cl) (hcs : csC = relabel scope env) (Y : Fi csC nsC cnsC gsC bsC) (hcell : ∀ y ∈ scope.names, y.2 ≠ .cell) (hkind : scope.kind = .function)
    (Wk : Walks pw w A I fp [I] n P St) (hst : ∀ i h, St i h → ∃ o, h.get? I = some o) (J : Nat → List Value → List (Addr × Obj) → Prop)
    (hfp : ∀ b ∈ fp, b = I ∨ ((∃ o, h.get? b = some o) ∧ b ∉ I :: news.map (·.1)) ∨ ∃ o, ∀ i ys news, J i ys news → (b, o) ∈ news) (hix : nsC[ix]? = some x) (hn : n ≤ sizeLine)
    (W : Wd w mg mb mean h₀) (F : Fm h₀ L ns vs ((I, oI) :: news) h) (st : St 0 h) (j0 : J 0 [] news)
    (step : ∀ hb C D i v ys news₁ h₁ tk₁ oI ep, Wd w mg mb mean hb → (∀ b o, b ∉ I :: news.map (·.1) → h.get? b = some o → hb.get? b = some o) → i < n → P i v → J i ys news₁ →
      Fm hb C nsC ((List.replicate nsC.length none).set ix (some v)) ((I, oI) :: (D, lsO ys ep) :: news₁) h₁ →
      wpAny (Mo w) A (forIn ifs true fun c r => if r = true then do let ok ← isTrue c (compEnvC scope clo C env) (eval c (compEnvC scope clo C env)); pure (ForInStep.yield ok) else pure (ForInStep.yield r))
        (fun ok s₃ => if ok = true then wpAny (Mo w) A (eval elt (compEnvC scope clo C env)) (fun y s' => ∃ vs₃ news₃ h₃ tk₃, s' = ⟨h₃, g, d, tk₃, os⟩ ∧ Fm hb C nsC vs₃ ((I, oI) :: (D, lsO ys ep) :: news₃) h₃ ∧ J (i + 1) (ys ++ [y]) news₃) (fun _ _ => False) s₃
          else ∃ vs₃ news₃ h₃ tk₃, s₃ = ⟨h₃, g, d, tk₃, os⟩ ∧ Fm hb C nsC vs₃ ((I, oI) :: (D, lsO ys ep) :: news₃) h₃ ∧ J (i + 1) ys news₃) (fun _ _ => False) ⟨h₁, g, d, tk₁, os⟩)
    (done : ∀ D ys news₁ h₁ tk₁ ep, J n ys news₁ → Fm h₀ L ns vs ((D, lsO ys ep) :: news₁) h₁ → Q (.ref D) ⟨h₁, g, d, tk₁, os⟩) :
    compTail w A E elt px x iter ifs scope pos clo env none Q (.ref I) ⟨h, g, d, tk, os⟩ :=
  comp_at (RR := fun acc C => compPost (Mo w) A E none Q acc C) ix en hcs Y hcell hkind Wk hst J hfp hix hn W F st j0 step fun C D oC ys news₁ h₁ tk₁ ep m j hns F₁ => ⟨m, hns, fun h' hs => done D ys news₁ h' tk₁ ep j (F₁.dropMut hs.extBut)⟩
theorem comp_fin0 {I : Addr} {fp : List Addr} {n : Nat} {P : Nat → Value → Prop} {St : Nat → Heap → Prop} {Q : Value → Shared → Prop} {elt iter : Expr} {scope : Scope} {oI : Obj}
    {csC : Scope} {nsC cnsC : List Str} {gsC bsC : List (Str × Value)} {clo : List (Str × Addr)} (ix : Nat)
    (en : En env L cs cl) (hcs : csC = relabel scope env) (Y : Fi csC nsC cnsC gsC bsC) (hcell : ∀ y ∈ scope.names, y.2 ≠ .cell) (hkind : scope.kind = .function)
    (Wk : Walks pw w A I fp [I] n P St) (hst : ∀ i h, St i h → ∃ o, h.get? I = some o) (J : Nat → List Value → List (Addr × Obj) → Prop)
    (hfp : ∀ b ∈ fp, b = I ∨ ((∃ o, h.get? b = some o) ∧ b ∉ I :: news.map (·.1)) ∨ ∃ o, ∀ i ys news, J i ys news → (b, o) ∈ news) (hix : nsC[ix]? = some x) (hn : n ≤ sizeLine)
    (W : Wd w mg mb mean h₀) (F : Fm h₀ L ns vs ((I, oI) :: news) h) (st : St 0 h) (j0 : J 0 [] news)
    (step : ∀ hb C D i v ys news₁ h₁ tk₁ oI ep, Fi csC nsC cnsC gsC bsC → Wd w mg mb mean hb → (∀ b o, b ∉ I :: news.map (·.1) → h.get? b = some o → hb.get? b = some o) → i < n → P i v → J i ys news₁ →
      Fm hb C nsC ((List.replicate nsC.length none).set ix (some v)) ((I, oI) :: (D, lsO ys ep) :: news₁) h₁ → En (compEnvC scope clo C env) C csC clo →
      wpAny (Mo w) A (eval elt (compEnvC scope clo C env)) (fun y s' => ∃ vs₃ news₃ h₃ tk₃, s' = ⟨h₃, g, d, tk₃, os⟩ ∧ Fm hb C nsC vs₃ ((I, oI) :: (D, lsO ys ep) :: news₃) h₃ ∧ J (i + 1) (ys ++ [y]) news₃) (fun _ _ => False) ⟨h₁, g, d, tk₁, os⟩)
    (done : ∀ D ys news₁ h₁ tk₁ ep, J n ys news₁ → Fm h₀ L ns vs ((D, lsO ys ep) :: news₁) h₁ → Q (.ref D) ⟨h₁, g, d, tk₁, os⟩) :
    compTail w A E elt px x iter [] scope pos clo env none Q (.ref I) ⟨h, g, d, tk, os⟩ :=
  comp_fin ix en hcs Y hcell hkind Wk hst J hfp hix hn W F st j0 (fun hb C D i v ys news₁ h₁ tk₁ oI ep Wb keep hi pv j F₁ => wpAny_pure (by
    rw [if_pos rfl]; exact step hb C D i v ys news₁ h₁ tk₁ oI ep Y Wb keep hi pv j F₁ (hcs ▸ en.comp))) done
end
section
variable {w : World} {A : Around} {E : Value → Shared → Prop} {h₀ hb h : Heap} {g : Array GenState} {d : Drawn} {tk : Nat} {os : OsState} {L a x dx C : Addr} {mg mb : Str → Option Value} {mean : ExcName → Option Value}
  {ns nsF : List Str} {vs : List (Option Value)} {cl : List (Str × Addr)} {gs bs : List (Str × Value)} {news : List (Addr × Obj)} {cs : Scope} {pos px : Pos} {v : Value} {env : Env} {s : Shared} {es : List DictEntry} {n : Nat} {fs : List (Str × Value)}
theorem Fm.at_ (F : Fm h₀ L ns vs ((dx, dictOf es n) :: (x, instObj C dx) :: news) h) (r : Rep fs es) : At h x C fs := ⟨dx, es, n, F.get (.tail _ (.head _)), F.get (.head _), r⟩
theorem At.base (F : Fm h₀ L ns vs news h) (a : At h₀ x C fs) : At h x C fs := a.ext F.keep
theorem Fm.turned {L' : Addr} {ns' : List Str} {vs' : List (Option Value)} {o o' od : Obj} {more : List (Addr × Obj)} {h' : Heap} (F : Fm h₀ L ns vs ((dx, od) :: (x, o) :: news) h) (G : Fm (hideAll h [dx, x]) L' ns' vs' ((dx, o') :: (x, o) :: more) h') :
    Fm h₀ L ns vs ((dx, o') :: (x, o) :: news) h' := by
  have hx := F.get (.tail _ (.head _)) (a := x) (o := o)
  refine F.mutH (fun b ob hb e => ?_) (G.get (.head _))
  by_cases q : b = x
  · subst q; rw [hx] at e; cases e; exact G.get (.tail _ (.head _))
  · exact G.keep _ _ (hideAll_get _ e (by simp [hb, q]))
theorem callMut {f : Addr} {qual : Str} {body : List Stmt} {cdv : Value} {params : List Str} {vals : List Value} {Q : Value → Shared → Prop} (P : Value → List (Str × Value) → Prop) (D : Df w f qual body cs cdv params [] nsF gs bs)
    (W : Wd w mg mb mean h₀) (F : Fm h₀ L ns vs ((dx, dictOf es n) :: (x, instObj C dx) :: news) h) (hroom : A.depth < recursionLimit) (hlen : vals.length + 1 = params.length)
    (hbody : ∀ hb L' h₁ tk₁, Wd w mg mb mean hb → Fm hb L' nsF ((.ref x :: vals).map some ++ List.replicate (nsF.length - params.length) none) [(dx, dictOf es n), (x, instObj C dx)] h₁ →
      wpAny (Mo w) (A.deeper (envOf qual cs L' f cdv)) (execs body (envOf qual cs L' f cdv)) (fun fl s' => ∃ h₂ es' n' vs' more tk' fs', s' = ⟨h₂, g, d, tk', os⟩ ∧ P (match fl with | .ret v => v | _ => .none) fs' ∧ Fm hb L' nsF vs' ((dx, dictOf es' n') :: (x, instObj C dx) :: more) h₂ ∧ Rep fs' es') (fun _ _ => False) ⟨h₁, g, d, tk₁, os⟩)
    (hq : ∀ h' es' n' v tk' fs', Fm h₀ L ns vs ((dx, dictOf es' n') :: (x, instObj C dx) :: news) h' → Rep fs' es' → P v fs' → Q v ⟨h', g, d, tk', os⟩) :
    wpAny (Mo w) A (call (.ref f) (.ref x :: vals)) Q E ⟨h, g, d, tk, os⟩ := by
  have nd := F.nd
  have hne : dx ≠ x := by
    rw [List.map_cons, List.map_cons, List.nodup_cons] at nd
    exact fun q => nd.1 (by rw [show (dx, dictOf es n).1 = (x, instObj C dx).1 from q]; exact .head _)
  refine wpAny_call (callF (news := [(dx, dictOf es n), (x, instObj C dx)]) D W F.keep (fun p hp => ?_) (by simp [hne]) hroom (by simpa using hlen) fun L' h₁ tk₁ W₀ _ G => ?_)
  · have hp' : p ∈ (dx, dictOf es n) :: (x, instObj C dx) :: news := by
      rcases List.mem_cons.mp hp with rfl | q
      · exact .head _
      · obtain rfl := List.mem_singleton.mp q; exact .tail _ (.head _)
    exact ⟨(F.led p hp').1, (F.led p hp').2.2⟩
  · refine wpAny_mono (hbody _ L' h₁ tk₁ W₀ G) (fun fl s' q => ?_) fun _ _ q => q.elim
    (wtm_at "pc")
    obtain ⟨h₂, es', n', vs', more, tk', fs', rfl, hv, G', rep⟩ := q
    (wtm_at "pu")
    exact hq h₂ es' n' _ tk' fs' (F.turned G') rep hv
noncomputable def BMeth (w : World) (A : Around) (nm : Str) (k : String → Prop) (ov : Value) (s₁ : Shared) : Prop := ∃ id, (∀ (pl : Sem Bool) (Q : Value × List Value → Shared → Prop) (E : Value → Shared → Prop), Q (.builtin id, [ov]) s₁ → wpAny (Mo w) A (getMethod ov nm pl) Q E s₁) ∧ k id
theorem BMeth.join {k : String → Prop} {y : Str} {t : Tok} {s : Shared} (q : k "str.join") : BMeth w A "join" k (.str y t) s := ⟨_, fun _ _ _ q => GM.join q, q⟩
theorem r_callBM {Q : Value → Shared → Prop} {o e : Expr} {as : List Expr} {nm : Str} {apos : Pos}
    (h : wpAny (Mo w) A (eval o env) (fun ov s₁ => BMeth w A nm (fun id => wpAny (Mo w) A (spliced (backTo pos (starEach (e :: as) env))) (fun ws s₂ => wpAny (Mo w) A (call (.builtin id) (ov :: ws)) Q E s₂) E s₁) ov s₁) E s)
    (he : eval (.Call (.Attribute o nm apos) (e :: as) [] pos) env = (do
      let ov ← eval o env
      standAt apos.atName
      let (f, first) ← holding [ov] (getMethod ov nm pl)
      callWith pos f first (backTo pos (starEach (e :: as) env)) (backToKw pos (keywordEach [] env))) := by rfl)
    (hse : starEach (e :: as) env = (false, eval e env) :: starEach as env := by rfl) (hp : (backTo pos (starEach as env)).any (·.1) = false := by rfl) :
    wpAny (Mo w) A (eval (.Call (.Attribute o nm apos) (e :: as) [] pos) env) Q E s := by
  refine methodCall_KW (wpAny_mono h (fun ov s₁ q => ?_) fun _ _ x => x) he
  (wtm_at "pc")
  obtain ⟨id, hm, q⟩ := q
  (wtm_at "pu")
  refine hm _ _ _ ?_
  show wpAny _ _ (callWith pos (.builtin id) [ov] (backTo pos (starEach (e :: as) env)) []) _ _ _
  rw [hse] at q ⊢
  exact Calls.callWith_builtin (by show (false || (backTo pos (starEach as env)).any (·.1)) = false; rw [hp]; rfl) (Calls.evalArgs_plain q)
end
section
variable {w : World} {A : Around} {E : Value → Shared → Prop} {s : Shared} {x y : Str} {t u : Tok} {i j : Int}
theorem r_eqS {Q : Value → Shared → Prop} (hq : Q (.bool (decide (x = y))) s) : wpAny (Mo w) A (compareOp .Eq (.str x t) (.str y u)) Q E s := by
  have e : (x.cps.toList == y.cps.toList) = decide (x = y) := by
    rw [Bool.eq_iff_iff, beq_iff_eq, decide_eq_true_eq]
    constructor
    · intro h; cases x; cases y; simp only [Str.mk.injEq]; exact Array.toList_inj.mp h
    · rintro rfl; rfl
  exact P.eq_str (by rw [e]; exact hq)
theorem r_neS {Q : Value → Shared → Prop} (hq : Q (.bool (!decide (x = y))) s) : wpAny (Mo w) A (compareOp .NotEq (.str x t) (.str y u)) Q E s := by
  have e : (x.cps.toList != y.cps.toList) = !decide (x = y) := by
    rw [bne, Bool.not_inj_iff, Bool.eq_iff_iff, beq_iff_eq, decide_eq_true_eq]
    constructor
    · intro h; cases x; cases y; simp only [Str.mk.injEq]; exact Array.toList_inj.mp h
    · rintro rfl; rfl
  exact P.ne_str (by rw [e]; exact hq)
theorem r_ltS {Q : Value → Shared → Prop} (hq : Q (.bool (decide (x.cps.toList < y.cps.toList))) s) : wpAny (Mo w) A (compareOp .Lt (.str x t) (.str y u)) Q E s := P.lt_str hq
theorem r_gtS {Q : Value → Shared → Prop} (hq : Q (.bool (decide (y.cps.toList < x.cps.toList))) s) : wpAny (Mo w) A (compareOp .Gt (.str x t) (.str y u)) Q E s := P.gt_str hq
theorem r_geS {Q : Value → Shared → Prop} (hq : Q (.bool (!decide (x.cps.toList < y.cps.toList))) s) : wpAny (Mo w) A (compareOp .GtE (.str x t) (.str y u)) Q E s := P.ge_str hq
theorem r_ge {Q : Value → Shared → Prop} (hq : Q (.bool (decide (j ≤ i))) s) : wpAny (Mo w) A (compareOp .GtE (.int i t) (.int j u)) Q E s := PyProof.Rows.ge_int hq
theorem r_eq {Q : Value → Shared → Prop} (hq : Q (.bool (i == j)) s) : wpAny (Mo w) A (compareOp .Eq (.int i t) (.int j u)) Q E s := PyProof.Rows.eq_int hq
end
section
variable {w : World} {A : Around} {E : Value → Shared → Prop} {h₀ h : Heap} {g : Array GenState} {d : Drawn} {tk : Nat} {os : OsState} {L a : Addr} {ns : List Str} {vs : List (Option Value)} {news : List (Addr × Obj)} {xs : List Value}
noncomputable def Ls (h : Heap) (a : Addr) (xs : List Value) : Prop := h.IsList a xs.toArray
theorem Ls.ext {h h' : Heap} (l : Ls h a xs) (k : Ext h h') : Ls h' a xs := let ⟨o, e, r⟩ := l; ⟨o, k _ _ e, r⟩
theorem Ls.of {n : Nat} (e : h.get? a = some (lsO xs n)) : Ls h a xs := ⟨_, e, rfl, _, rfl⟩
noncomputable def Tp (h : Heap) (a : Addr) (xs : List Value) : Prop := h.IsTuple a xs.toArray
theorem Tp.ext {h h' : Heap} (l : Tp h a xs) (k : Ext h h') : Tp h' a xs := let ⟨o, e, r⟩ := l; ⟨o, k _ _ e, r⟩
theorem Tp.of (e : h.get? a = some (tpO xs)) : Tp h a xs := ⟨_, e, rfl, _, rfl⟩
theorem r_iterL {Q : Value → Shared → Prop} (F : Fm h₀ L ns vs news h) (l : Ls h a xs) (hq : ∀ I h' oI, Fm h₀ L ns vs ((I, oI) :: news) h' → (h'.IsListIter I a 0 ∧ h'.IsList a xs.toArray) → I ≠ a → Ext h h' → Q (.ref I) ⟨h', g, d, tk, os⟩) :
    wpAny (Mo w) A (pyIter (.ref a)) Q E ⟨h, g, d, tk, os⟩ := by
  have hk : Ext h (h.push { cls := .type "list_iterator", data := .fields #[.ref a, .int 0 0] }) := fun b o e => Heap.get?_push_of_some _ e
  refine wpAny_pyIter_list l (hq _ _ _ (F.push _) ⟨⟨_, Heap.get?_push_size _ rfl, rfl, rfl⟩, l.ext hk⟩ ?_ hk)
  (wtm_at "pc")
  obtain ⟨o, e, _⟩ := l
  (wtm_at "pu")
  exact Ne.symm (Nat.ne_of_lt (Heap.lt_size e))
theorem r_iterT {Q : Value → Shared → Prop} (F : Fm h₀ L ns vs news h) (l : Tp h a xs) (hq : ∀ I h' oI, Fm h₀ L ns vs ((I, oI) :: news) h' → (h'.IsTupleIter I a 0 ∧ h'.IsTuple a xs.toArray) → I ≠ a → Ext h h' → Q (.ref I) ⟨h', g, d, tk, os⟩) :
    wpAny (Mo w) A (pyIter (.ref a)) Q E ⟨h, g, d, tk, os⟩ := by
  have hk : Ext h (h.push { cls := .type "tuple_iterator", data := .fields #[.ref a, .int 0 0] }) := fun b o e => Heap.get?_push_of_some _ e
  refine wpAny_pyIter_tuple l (hq _ _ _ (F.push _) ⟨⟨_, Heap.get?_push_size _ rfl, rfl, rfl⟩, l.ext hk⟩ ?_ hk)
  (wtm_at "pc")
  obtain ⟨o, e, _⟩ := l
  (wtm_at "pu")
  exact Ne.symm (Nat.ne_of_lt (Heap.lt_size e))
theorem st_list {I : Addr} : ∀ (i : Nat) (h : Heap), h.IsListIter I a i ∧ h.IsList a xs.toArray → ∃ o, h.get? I = some o := fun _ _ st => let ⟨o, ho, _⟩ := st.1; ⟨o, ho⟩
theorem st_tuple {I : Addr} : ∀ (i : Nat) (h : Heap), h.IsTupleIter I a i ∧ h.IsTuple a xs.toArray → ∃ o, h.get? I = some o := fun _ _ st => let ⟨o, ho, _⟩ := st.1; ⟨o, ho⟩
theorem r_lenL {Q : Value → Shared → Prop} (l : Ls h a xs) (hn : xs.length ≤ 100000) (hq : Q (.int xs.length (tk + 1)) ⟨h, g, d, tk + 2, os⟩) : wpAny (Mo w) A (call (.builtin "len") [.ref a]) Q E ⟨h, g, d, tk, os⟩ := by
  refine len_list l (by simp; lia) ?_
  simpa using hq
end
structure RecD where
  tag : Str
  total : Int
  begin : Int
  length : Int
  wh : Int
noncomputable def IsRec (h : Heap) (v : Value) (r : RecD) : Prop := ∃ x t1 t2 t3 t4 t5, v = .ref x ∧ At h x 308 [("tag", .str r.tag t1), ("total", .int r.total t2), ("begin", .int r.begin t3), ("length", .int r.length t4), ("where", .int r.wh t5)]
theorem IsRec.ext {h h' : Heap} {v : Value} {r : RecD} (a : IsRec h v r) (k : Ext h h') : IsRec h' v r := let ⟨x, t1, t2, t3, t4, t5, e, q⟩ := a; ⟨x, t1, t2, t3, t4, t5, e, q.ext k⟩
structure Recs (h : Heap) (vs : List Value) (rs : List RecD) : Prop where
  len : vs.length = rs.length
  at_ : ∀ (i : Nat) (v : Value) (r : RecD), vs[i]? = some v → rs[i]? = some r → IsRec h v r
theorem Recs.ext {h h' : Heap} {vs : List Value} {rs : List RecD} (a : Recs h vs rs) (k : Ext h h') : Recs h' vs rs := ⟨a.len, fun i v r e1 e2 => (a.at_ i v r e1 e2).ext k⟩
theorem Recs.get {h : Heap} {vs : List Value} {rs : List RecD} (a : Recs h vs rs) {i : Nat} (hi : i < rs.length) : ∃ v, vs[i]? = some v ∧ IsRec h v rs[i] := by
  have hv : i < vs.length := by rw [a.len]; exact hi
  exact ⟨vs[i], List.getElem?_eq_getElem hv, a.at_ i _ _ (List.getElem?_eq_getElem hv) (List.getElem?_eq_getElem hi)⟩
noncomputable def kasRun {α : Type} (n : Nat) (lt : Nat → Nat → Bool) : KasT α → Option α
  | .ret a => some a
  | .ask i j k => if i < n ∧ j < n ∧ i ≠ j then kasRun n lt (k (lt i j)) else none
theorem kas_det {α : Type} {cmp : Nat → Nat → (Bool → Shared → Prop) → Shared → Prop} {n : Nat} {lt : Nat → Nat → Bool} {Q : α → Shared → Prop} {s : Shared}
    (hc : ∀ (i j : Nat) (C : Bool → Shared → Prop), i < n → j < n → i ≠ j → C (lt i j) s → cmp i j C s) : ∀ (t : KasT α) (a : α), kasRun n lt t = some a → Q a s → t.kasWp cmp Q s
  | .ret b, a, e, q => by cases e; exact q
  | .ask i j k, a, e, q => by
    unfold kasRun at e
    split at e
    · rename_i hij
      exact hc i j _ hij.1 hij.2.1 hij.2.2 (kas_det hc (k (lt i j)) a e q)
    · cases e
noncomputable def ltLast (n i j : Nat) : Bool := if j + 1 = n then false else if i + 1 = n then true else decide (i < j)
noncomputable def permLast (n : Nat) : List Nat := (n - 1) :: List.range (n - 1)
theorem six {P : Nat → Prop} (h2 : P 2) (h3 : P 3) (h4 : P 4) (h5 : P 5) (h6 : P 6) (h7 : P 7) (n : Nat) (a : 2 ≤ n) (b : n ≤ 7) : P n := by
  rcases Nat.eq_or_lt_of_le a with rfl | a; · exact h2
  rcases Nat.eq_or_lt_of_le a with rfl | a; · exact h3
  rcases Nat.eq_or_lt_of_le a with rfl | a; · exact h4
  rcases Nat.eq_or_lt_of_le a with rfl | a; · exact h5
  rcases Nat.eq_or_lt_of_le a with rfl | a; · exact h6
  rcases Nat.eq_or_lt_of_le a with rfl | a; · exact h7
  exact absurd (Nat.lt_of_lt_of_le a b) (by decide)
theorem run_last (n : Nat) (a : 2 ≤ n) (b : n ≤ 7) : kasRun n (ltLast n) (kas_sort n) = some (permLast n).toArray := by
  refine six (P := fun n => kasRun n (ltLast n) (kas_sort n) = some (permLast n).toArray) ?_ ?_ ?_ ?_ ?_ ?_ n a b <;> kernel_rfl
theorem run_asc (n : Nat) (a : 2 ≤ n) (b : n ≤ 7) : kasRun n (fun i j => decide (i < j)) (kas_sort n) = some (List.range n).toArray := by
  refine six (P := fun n => kasRun n (fun i j => decide (i < j)) (kas_sort n) = some (List.range n).toArray) ?_ ?_ ?_ ?_ ?_ ?_ n a b <;> kernel_rfl
section
variable {w : World} {A : Around} {E : Value → Shared → Prop} {h₀ h : Heap} {g : Array GenState} {d : Drawn} {tk : Nat} {os : OsState} {L D : Addr} {ns : List Str} {vs : List (Option Value)} {news : List (Addr × Obj)} {xs : List Value}
structure Leads (news : List (Addr × Obj)) (xs : List Value) (ks : List Int) : Prop where
  len : xs.length = ks.length
  at_ : ∀ (i : Nat) (v : Value) (k : Int), xs[i]? = some v → ks[i]? = some k → ∃ a t r, v = .ref a ∧ (a, tpO (.int k t :: r)) ∈ news
theorem Leads.tups {h : Heap} {news : List (Addr × Obj)} (N : ∀ a o, (a, o) ∈ news → h.get? a = some o) : ∀ {xs : List Value} {ks : List Int}, Leads news xs ks → ∃ fs, KatTups h xs fs ∧ fs.length = ks.length ∧ ∀ f ∈ fs, ∃ k t, f = .int k t
  | [], [], _ => ⟨[], .nil, rfl, fun _ h => nomatch h⟩
  | v :: xs, k :: ks, l => by
    (wtm_at "pc")
    obtain ⟨fs, t, e, hf⟩ := Leads.tups N (xs := xs) (ks := ks) ⟨by have := l.len; simpa using this, fun i v c e1 e2 => l.at_ (i + 1) v c (by simpa using e1) (by simpa using e2)⟩
    (wtm_at "pu")
    (wtm_at "pc")
    obtain ⟨a, u, r, rfl, q⟩ := l.at_ 0 v k rfl rfl
    (wtm_at "pu")
    refine ⟨.int k u :: fs, .cons (N _ _ q) rfl rfl rfl t, by simp [e], fun f hf' => ?_⟩
    rcases List.mem_cons.mp hf' with rfl | z
    · exact ⟨_, _, rfl⟩
    · exact hf f z
  | [], _ :: _, l => by have := l.len; simp at this
  | _ :: _, [], l => by have := l.len; simp at this
theorem r_sortT {ks : List Int} {Q : Value → Shared → Prop} (p : List Nat) (lt : Nat → Nat → Bool) (F : Fm h₀ L ns vs news h) (hl : Ls h D xs) (hx : Leads news xs ks) (h2 : 2 ≤ xs.length) (h64 : xs.length < 64)
    (hlt : ∀ (i j : Nat) (a b : Int), ks[i]? = some a → ks[j]? = some b → lt i j = decide (a < b)) (hne : ∀ (i j : Nat) (a b : Int), ks[i]? = some a → ks[j]? = some b → i ≠ j → a ≠ b) (hrun : kasRun xs.length lt (kas_sort xs.length) = some p.toArray)
    (hq : ∀ a h' n, Fm h₀ L ns vs ((a, lsO (p.map fun i => xs.getD i Value.none) n) :: news) h' → Q (.ref a) ⟨h', g, d, tk, os⟩) :
    wpAny (Mo w) A (call (.builtin "sorted") [.ref D]) Q E ⟨h, g, d, tk, os⟩ := by
  (wtm_at "pc")
  obtain ⟨m, f, l⟩ := F.fr
  (wtm_at "pu")
  refine kat_sorted (s := ⟨h, g, d, tk, os⟩) (vs := xs) f F.led hl h2 h64 fun D' e1 h' f' N' hD => ?_
  (wtm_at "pc")
  obtain ⟨fs, kt, hfl, hfs⟩ := hx.tups (h := h') fun a o hm => (N' _ (.tail _ hm)).1
  (wtm_at "pu")
  refine kat_kind (T := .type "int") kt (by rw [hfl, ← hx.len]; lia) (fun v hv => ?_) (by decide) ?_
  · (wtm_at "pc")
    obtain ⟨k, t, rfl⟩ := hfs v hv
    (wtm_at "pu")
    exact Looks.of_pure rfl
  have hb : ((Value.type "int") != Value.type "tuple") = true := by decide
  rw [hb]
  refine kas_det (n := xs.length) (lt := lt) (fun i j C hi hj hij hC => ?_) _ _ hrun ?_
  · (wtm_at "pc")
    obtain ⟨a, t, r, ea, qa⟩ := hx.at_ i xs[i] (ks[i]'(by rw [← hx.len]; exact hi)) (List.getElem?_eq_getElem hi) (List.getElem?_eq_getElem _)
    (wtm_at "pu")
    (wtm_at "pc")
    obtain ⟨b, u, r', eb, qb⟩ := hx.at_ j xs[j] (ks[j]'(by rw [← hx.len]; exact hj)) (List.getElem?_eq_getElem hj) (List.getElem?_eq_getElem _)
    (wtm_at "pu")
    have ei : xs.getD i Value.none = .ref a := by rw [List.getD_eq_getElem?_getD, List.getElem?_eq_getElem hi]; exact ea
    have ej : xs.getD j Value.none = .ref b := by rw [List.getD_eq_getElem?_getD, List.getElem?_eq_getElem hj]; exact eb
    unfold kas_ask
    rw [ei, ej]
    refine kat_lt (N' _ (.tail _ qa)).1 rfl (N' _ (.tail _ qb)).1 rfl ?_
    have e := hlt i j _ _ (List.getElem?_eq_getElem (by rw [← hx.len]; exact hi)) (List.getElem?_eq_getElem (by rw [← hx.len]; exact hj))
    have hn := hne i j _ _ (List.getElem?_eq_getElem (by rw [← hx.len]; exact hi)) (List.getElem?_eq_getElem (by rw [← hx.len]; exact hj)) hij
    show KatLex _ _ _ _ _ _ ((Value.int _ t, Value.int _ u) :: (r.zip r')) 0 _
    refine kat_cons (wpAny_eqBool_int ?_)
    rw [beq_eq_false_iff_ne.mpr hn]
    refine kat_no (oneLt_int ?_)
    rw [← e]; exact hC
  · refine KasFin.intro f' N' (.head ?_) fun h'' c f'' N'' => ?_
    · intro q hq' e
      have := hD q hq'
      rw [e] at this; exact Nat.lt_irrefl _ this
    · refine hq D' h'' c ⟨⟨m, f'', l⟩, N'', ?_⟩
      rw [List.map_cons, List.nodup_cons]
      refine ⟨fun q => ?_, F.nd⟩
      (wtm_at "pc")
      obtain ⟨z, hz, e⟩ := List.mem_map.mp q
      (wtm_at "pu")
      have := hD z hz
      rw [e] at this; exact Nat.lt_irrefl _ this
theorem asc_at {ks : List Int} (asc : ∀ (i : Nat) (a b : Int), ks[i]? = some a → ks[i + 1]? = some b → a < b) : ∀ (k i : Nat) (a b : Int), ks[i]? = some a → ks[i + 1 + k]? = some b → a < b
  | 0, i, a, b, e1, e2 => asc i a b e1 e2
  | k + 1, i, a, b, e1, e2 => by
    have hlt : i + 1 + k < ks.length := by have := (List.getElem?_eq_some_iff.mp e2).1; lia
    have m := asc_at asc k i a _ e1 (List.getElem?_eq_getElem hlt)
    have n := asc (i + 1 + k) _ b (List.getElem?_eq_getElem hlt) e2
    lia
theorem r_sort1 {va : Value} {Q : Value → Shared → Prop} (F : Fm h₀ L ns vs news h) (hl : Ls h D [va])
    (hq : ∀ a h' n, Fm h₀ L ns vs ((a, lsO [va] n) :: news) h' → Q (.ref a) ⟨h', g, d, tk, os⟩) :
    wpAny (Mo w) A (call (.builtin "sorted") [.ref D]) Q E ⟨h, g, d, tk, os⟩ := by
  refine Calls.call_function_entry kind_sorted plain_sorted entry_sorted (args_sorted1 _) ?_
  unfold Builtin.«sorted»
  refine wpAny_bind (m := checkCount "sorted" 1 1 _) (wpAny_pure ?_)
  refine wpAny_bind (collect_list hl ?_ (by rw [sizeLine_eq]; simp))
  refine wpAny_bind (wpAny_newList ?_ (by rw [sizeLine_eq]; simp))
  have FA := (F.push (seqObj "list" #[] 0))
  have sA := Heap.SameBut.update (h.push (seqObj "list" #[] 0)) h.objs.size (Obj.mapSeq (· ++ [va].toArray))
  have FB := FA.dropMut sA.extBut
  have FC := FB.push (seqObj "list" [va].toArray 0)
  generalize hH : (h.push (seqObj "list" #[] 0)).update h.objs.size (Obj.mapSeq (· ++ [va].toArray)) = H at FC
  have hoL := FC.get (.head _)
  refine wpAny_bind (wpAny_holding (wpAny_call_entry slot_list_sort (s := ⟨H.push (seqObj "list" [va].toArray 0), g, d, tk, os⟩) ⟨_, hoL, rfl⟩ entry_list_sort ?body (args_list_sort _)))
  case body =>
    have s1 := Heap.SameBut.update (H.push (seqObj "list" [va].toArray 0)) H.objs.size (Obj.mapSeq fun _ => (#[] : Array Value))
    obtain ⟨e1, ho1⟩ : ∃ e1, ((H.push (seqObj "list" [va].toArray 0)).update H.objs.size (Obj.mapSeq fun _ => (#[] : Array Value))).get? H.objs.size = some (seqObj "list" #[] e1) := ⟨_, get?_update_seq hoL fun _ => #[]⟩
    rw [list_sort_plain]
    refine wpAny_bind (listItems_at hoL rfl ?_)
    refine wpAny_bind (listUpdate_at hoL rfl ?_ (by rw [sizeLine_eq]; simp) (Nat.zero_le _))
    refine wpAny_bind (seqEpoch_at ho1 rfl ?_)
    refine wpAny_bind (wpAny_newTuple ?_ (by show 1 ≤ _; rw [sizeLine_eq]; lia))
    refine wpAny_bind (wpAny_newList ?_ (Nat.zero_le _))
    refine wpAny_holding ?_
    (try dsimp only)
    rw [if_pos (show (#[va] : Array Value).size < 2 by simp), if_pos (show (#[va] : Array Value).size < 2 by simp)]
    refine wpAny_bind (wpAny_pure ?_)
    refine wpAny_bind (wpAny_pure ?_)
    (try dsimp only)
    have FD := ((FC.mutH s1.extBut ho1).push (seqObj "tuple" [va].toArray 0)).push (seqObj "list" #[] 0)
    generalize hH2 : (((H.push (seqObj "list" [va].toArray 0)).update H.objs.size (Obj.mapSeq fun _ => (#[] : Array Value))).push (seqObj "tuple" [va].toArray 0)).push (seqObj "list" #[] 0) = H2 at FD
    have ho2 := FD.get (a := H.objs.size) (o := seqObj "list" #[] e1) (.tail _ (.tail _ (.head _)))
    refine wpAny_bind (seqEpoch_at ho2 rfl ?_)
    have ea : Array.map (fun x : Keyed => x.2) (arrOf (SortSt.mk' general' (#[va].zip #[va]) #[] 7 none)) = #[va] := by
      show Array.map (fun x : Keyed => x.2) (#[va].zip #[va]) = #[va]
      simp
    rw [ea]
    refine wpAny_bind (listUpdate_at ho2 rfl ?_ (Nat.zero_le _) (by rw [sizeLine_eq]; simp))
    rw [if_neg (by simp)]
    have s2 := Heap.SameBut.update H2 H.objs.size (Obj.mapSeq fun _ => (#[va] : Array Value))
    obtain ⟨c2, hc2⟩ : ∃ c2, (H2.update H.objs.size (Obj.mapSeq fun _ => (#[va] : Array Value))).get? H.objs.size = some (seqObj "list" #[va] c2) := ⟨_, get?_update_seq ho2 fun _ => #[va]⟩
    have FE := (FD.drop (.cons _ (.cons _ (.refl _)))).mutH s2.extBut hc2
    exact wpAny_pure ⟨_, rfl, wpAny_pure ⟨_, rfl, hq _ _ c2 FE⟩⟩
theorem r_sortLine {va : Value} {ys : List Value} {ks : List Int} {k0 : Int} {Q : Value → Shared → Prop} (F : Fm h₀ L ns vs news h) (hl : Ls h D (ys ++ [va])) (hx : Leads news (ys ++ [va]) (ks ++ [k0])) (hn : ys.length ≤ 6)
    (asc : ∀ (i : Nat) (a b : Int), ks[i]? = some a → ks[i + 1]? = some b → a < b) (h0 : ∀ k ∈ ks, k0 < k)
    (hq : ∀ a h' n, Fm h₀ L ns vs ((a, lsO (va :: ys) n) :: news) h' → Q (.ref a) ⟨h', g, d, tk, os⟩) :
    wpAny (Mo w) A (call (.builtin "sorted") [.ref D]) Q E ⟨h, g, d, tk, os⟩ := by
  have hlen : ys.length = ks.length := by have := hx.len; simpa using this
  by_cases hz : ys.length = 0
  · obtain rfl := List.length_eq_zero_iff.mp hz
    exact r_sort1 F hl hq
  · have hxl : (ys ++ [va]).length = ys.length + 1 := by simp
    have key : ∀ (i j : Nat) (a b : Int), (ks ++ [k0])[i]? = some a → (ks ++ [k0])[j]? = some b → i ≠ j → (ltLast (ys.length + 1) i j = decide (a < b) ∧ a ≠ b) := by
      intro i j a b e1 e2 hij
      have l1 := (List.getElem?_eq_some_iff.mp e1).1
      have l2 := (List.getElem?_eq_some_iff.mp e2).1
      simp at l1 l2
      unfold ltLast
      by_cases q2 : j = ks.length
      · subst q2
        rw [List.getElem?_append_right (Nat.le_refl _), Nat.sub_self] at e2
        cases e2
        rw [List.getElem?_append_left (by lia)] at e1
        have := h0 a (List.mem_of_getElem? e1)
        rw [if_pos (by lia)]
        exact ⟨(decide_eq_false (by lia)).symm, by lia⟩
      · rw [List.getElem?_append_left (by lia)] at e2
        rw [if_neg (by lia)]
        by_cases q1 : i = ks.length
        · subst q1
          rw [List.getElem?_append_right (Nat.le_refl _), Nat.sub_self] at e1
          cases e1
          have := h0 b (List.mem_of_getElem? e2)
          rw [if_pos (by lia)]
          exact ⟨(decide_eq_true (by lia)).symm, by lia⟩
        · rw [List.getElem?_append_left (by lia)] at e1
          rw [if_neg (by lia)]
          rcases Nat.lt_or_gt_of_ne hij with q | q
          · have := asc_at asc (j - i - 1) i a b e1 (by rw [gap q]; exact e2)
            exact ⟨by rw [decide_eq_true q, decide_eq_true this], by lia⟩
          · have := asc_at asc (i - j - 1) j b a e2 (by rw [gap q]; exact e1)
            exact ⟨by rw [decide_eq_false (by lia), decide_eq_false (by lia)], by lia⟩
    refine r_sortT (permLast (ys.length + 1)) (ltLast (ys.length + 1)) F hl hx (by lia) (by lia) (fun i j a b e1 e2 => ?_) (fun i j a b e1 e2 q => (key i j a b e1 e2 q).2) (by rw [hxl]; exact run_last _ (by lia) (by lia)) fun a h' n G => ?_
    · by_cases q : i = j
      · subst q
        rw [e1] at e2; cases e2
        rw [decide_eq_false (by lia)]
        unfold ltLast
        split
        · rfl
        · exact decide_eq_false (by lia)
      · exact (key i j a b e1 e2 q).1
    · have e : (permLast (ys.length + 1)).map (fun i => (ys ++ [va]).getD i Value.none) = va :: ys := by
        unfold permLast
        rw [Nat.add_sub_cancel, List.map_cons]
        congr 1
        · simp
        · apply List.ext_getElem
          · simp
          · intro i q1 q2
            have q : i < ys.length := by simpa using q1
            simp [List.getElem?_append_left q, q]
      rw [e] at G
      exact hq a h' n G
end
section
variable {w : World} {A : Around} {E : Value → Shared → Prop} {h₀ hb h : Heap} {g : Array GenState} {d : Drawn} {tk : Nat} {os : OsState} {L a : Addr} {mg mb : Str → Option Value} {mean : ExcName → Option Value}
  {ns cns : List Str} {vs : List (Option Value)} {cl : List (Str × Addr)} {gs bs : List (Str × Value)} {news : List (Addr × Obj)} {cs : Scope} {x y : Str} {pos px py spos : Pos} {v : Value} {env : Env} {s : Shared}
theorem r_acomp {elt iter : Expr} {ifs : List Expr} {scope : Scope} {Q : Flow → Shared → Prop} (clo : List (Str × Addr))
    (h : wpAny (Mo w) A (eval iter env) (fun xv s₁ => wpAny (Mo w) A (pyIter xv) (compTail w A E elt px x iter ifs scope pos clo env (some (assign (.Name y py) env)) (fun _ s' => Q .next s')) E s₁) E s)
    (hsw : swapsWith (.ListComp elt [⟨.Name x px, iter, ifs, 0⟩] scope pos) (some (.Name y py)) spos.line env = pure true)
    (hclos : closureFor scope env = pure clo) (hkind : scope.kind = .function) (hnames : ∀ x ∈ scope.names, x.2 = .local → scope.names.lookup x.1 = some .local) (hs : ∀ y, foldedSetIterable iter env y = pure y := by intro _; rfl) :
    wpAny (Mo w) A (exec (.Assign [.Name y py] (.ListComp elt [⟨.Name x px, iter, ifs, 0⟩] scope pos) spos) env) Q E s := by
  rw [exec_Assign_Name_used _ _ _ _ hsw]
  refine wpAny_bind (wpAny_standAt (wpAny_bind ?_))
  show wpAny _ A (do let _ ← comprehension (.ListComp elt [⟨.Name x px, iter, ifs, 0⟩] scope pos) scope env _ (newList []) false (eval iter env) (some (assign (.Name y py) env))) _ _ s
  exact wpAny_bind (wpAny_mono (wpAny_comprehension_free (cl := clo) (use := some (assign (.Name y py) env)) (Q := fun _ s' => Q .next s') rfl hs hclos hkind hnames h) (fun _ s' hq => wpAny_pure (wpAny_pure hq)) fun _ _ e => e)
theorem comp_finA {I : Addr} {fp : List Addr} {n : Nat} {P : Nat → Value → Prop} {St : Nat → Heap → Prop} {Q : Value → Shared → Prop} {elt iter : Expr} {ifs : List Expr} {scope : Scope} {oI : Obj}
    {csC : Scope} {nsC cnsC : List Str} {gsC bsC : List (Str × Value)} {clo : List (Str × Addr)} (ix iy : Nat)
    (en : En env L cs cl) (Y₀ : Fi cs ns cns gs bs) (hiy : ns[iy]? = some y) (hcs : csC = relabel scope env) (Y : Fi csC nsC cnsC gsC bsC) (hcell : ∀ y ∈ scope.names, y.2 ≠ .cell) (hkind : scope.kind = .function)
    (Wk : Walks pw w A I fp [I] n P St) (hst : ∀ i h, St i h → ∃ o, h.get? I = some o) (J : Nat → List Value → List (Addr × Obj) → Prop)
    (hfp : ∀ b ∈ fp, b = I ∨ ((∃ o, h.get? b = some o) ∧ b ∉ I :: news.map (·.1)) ∨ ∃ o, ∀ i ys news, J i ys news → (b, o) ∈ news) (hix : nsC[ix]? = some x) (hn : n ≤ sizeLine)
    (W : Wd w mg mb mean h₀) (F : Fm h₀ L ns vs ((I, oI) :: news) h) (st : St 0 h) (j0 : J 0 [] news)
    (step : ∀ hb C D i v ys news₁ h₁ tk₁ oI ep, Fi csC nsC cnsC gsC bsC → Wd w mg mb mean hb → (∀ b o, b ∉ I :: news.map (·.1) → h.get? b = some o → hb.get? b = some o) → i < n → P i v → J i ys news₁ →
      Fm hb C nsC ((List.replicate nsC.length none).set ix (some v)) ((I, oI) :: (D, lsO ys ep) :: news₁) h₁ → En (compEnvC scope clo C env) C csC clo →
      wpAny (Mo w) A (forIn ifs true fun c r => if r = true then do let ok ← isTrue c (compEnvC scope clo C env) (eval c (compEnvC scope clo C env)); pure (ForInStep.yield ok) else pure (ForInStep.yield r))
        (fun ok s₃ => if ok = true then wpAny (Mo w) A (eval elt (compEnvC scope clo C env)) (fun y s' => ∃ vs₃ news₃ h₃ tk₃, s' = ⟨h₃, g, d, tk₃, os⟩ ∧ Fm hb C nsC vs₃ ((I, oI) :: (D, lsO ys ep) :: news₃) h₃ ∧ J (i + 1) (ys ++ [y]) news₃) (fun _ _ => False) s₃
          else ∃ vs₃ news₃ h₃ tk₃, s₃ = ⟨h₃, g, d, tk₃, os⟩ ∧ Fm hb C nsC vs₃ ((I, oI) :: (D, lsO ys ep) :: news₃) h₃ ∧ J (i + 1) ys news₃) (fun _ _ => False) ⟨h₁, g, d, tk₁, os⟩)
    (done : ∀ D ys news₁ h₁ tk₁ ep, J n ys news₁ → Fm h₀ L ns (vs.set iy (some (.ref D))) ((D, lsO ys ep) :: news₁) h₁ → Q .none ⟨h₁, g, d, tk₁, os⟩) :
    compTail w A E elt px x iter ifs scope pos clo env (some (assign (.Name y py) env)) Q (.ref I) ⟨h, g, d, tk, os⟩ :=
  comp_at (RR := fun acc C => compPost (Mo w) A E (some (assign (.Name y py) env)) Q acc C) ix en hcs Y hcell hkind Wk hst J hfp hix hn W F st j0
    (fun hb C D i v ys news₁ h₁ tk₁ oI ep Wb keep hi pv j F₁ => step hb C D i v ys news₁ h₁ tk₁ oI ep Y Wb keep hi pv j F₁ (hcs ▸ en.comp)) fun C D oC ys news₁ h₁ tk₁ ep m j hns F₁ => by
    show wpAny _ A (assign (.Name y py) env (.ref D)) _ _ _
    refine wpAny_assign_Name (r_stI en Y₀ F₁ hiy fun h₂ F₂ hs₂ => ?_)
    exact ⟨m, hns.sameBut hs₂ (F₁.led _ (.head _)).2.1, fun h₃ hs₃ => done D ys news₁ h₃ _ ep j (F₂.dropMut hs₃.extBut)⟩
theorem r_test1 {c : Expr} {Q : Bool → Shared → Prop} (h : wpAny (Mo w) A (isTrue c env (eval c env)) Q E s) :
    wpAny (Mo w) A (forIn [c] true fun c r => if r = true then do let ok ← isTrue c env (eval c env); pure (ForInStep.yield ok) else pure (ForInStep.yield r)) Q E s := by
  rw [List.forIn_cons]
  rw [if_pos rfl]
  refine wpAny_bind (wpAny_bind (wpAny_mono h (fun ok s' q => wpAny_pure ?_) fun _ _ x => x))
  exact wpAny_pure q
theorem BMeth.append {D : Addr} {ys : List Value} {n : Nat} {k : String → Prop} {s : Shared} (e : s.heap.get? D = some (lsO ys n)) (q : k "list.append") : BMeth w A "append" k (.ref D) s :=
  ⟨_, fun _ _ _ q => getMethod_list_append e rfl rfl q, q⟩
theorem r_append {D : Addr} {ys : List Value} {n : Nat} {z : Value} {Q : Value → Shared → Prop} (F : Fm h₀ L ns vs ((D, lsO ys n) :: news) h) (hn : ys.length ≤ 100000)
    (hq : ∀ h' n', Fm h₀ L ns vs ((D, lsO (ys ++ [z]) n') :: news) h' → Q .none ⟨h', g, d, tk, os⟩) : wpAny (Mo w) A (call (.builtin "list.append") [.ref D, z]) Q E ⟨h, g, d, tk, os⟩ := by
  refine wpAny_list_append_plain (hsz := by rw [sizeLine_eq]; simp; lia) ⟨n, F.get (.head _)⟩ fun h' hp hs => ?_
  obtain ⟨n', hp⟩ := hp
  have e : ys.toArray.push z = (ys ++ [z]).toArray := by simp
  rw [e] at hp
  exact hq h' n' (F.mutH hs.extBut hp)
theorem r_itemT {value slice : Expr} {t : Addr} {l : List Value} {k : Int} {u : Tok} {j : Nat} {z : Value} {Q : Value → Shared → Prop} (ht : Tp s.heap t l)
    (hlo : -(2 ^ 63) ≤ k) (hhi : k < 2 ^ 63) (hj : seqIndex? k l.length = some j) (hx : l[j]? = some z) (hq : Q z s)
    (hs : subscripted slice false (.ref t) (.int k u) = operate [.ref t, .int k u] (getItem (.ref t) (.int k u)) := by with_unfolding_all rfl) :
    wpAny (Mo w) A (subscriptTail value slice (.ref t) (.int k u)) Q E s :=
  subscriptTail_builtinR (x := z) (IsTup.typeIs ht) slot_tuple_getitem.lookup (getItem_tuple (items := l.toArray) ht hlo hhi (by simpa using hj) (by simpa using hx) ⟨rfl, hq⟩) hs
theorem r_unpack2 {t : Addr} {v1 v2 : Value} {k : Nat} {Q : Unit → Shared → Prop} (hh : A.handled = none) (ht : Tp h t [v1, v2])
    (hq : ∀ h', Ext h h' → wpAny (Mo w) A (storeName env x v1) (fun _ s₁ => wpAny (Mo w) A (storeName env y v2) Q E s₁) E ⟨h', g, d, tk, os⟩) :
    wpAny (Mo w) A (assign (.Tuple [.Name x px, .Name y py] k pos) env (.ref t)) Q E ⟨h, g, d, tk, os⟩ := by
  refine assign_Tuple_tuple (items := [v1, v2].toArray) hh ht rfl rfl fun h' he => ?_
  refine PyProof.Rows.assignInOrder_cons ?_
  refine assign_Name (wpAny_mono (hq h' fun b o e => he b o (Nat.ne_of_lt (Heap.lt_size e)) e) (fun _ s₁ q => ?_) fun _ _ x => x)
  exact PyProof.Rows.assignInOrder_cons (assign_Name (wpAny_mono q (fun _ s₂ q => PyProof.Rows.assignInOrder_nil q) fun _ _ x => x))
end
section
variable {w : World} {A : Around} {E : Value → Shared → Prop} {h : Heap} {g : Array GenState} {d : Drawn} {tk : Nat} {os : OsState} {mg mb : Str → Option Value} {mean : ExcName → Option Value}
theorem check_room_c {l : List UInt8} {t₁ t₂ t₃ : Tok} {at_ cnt : Int} {Q : Value → Shared → Prop} (W : Wd w mg mb mean h) (R : Rm 1 A) (hl : l.length ≤ 16777216) (h0 : 0 ≤ at_) (h1 : at_ + cnt ≤ l.length)
    (hq : ∀ h' tk', Ext h h' → Q .none ⟨h', g, d, tk', os⟩) : wpAny (Mo w) A (call (.ref 82) [.bytes l.toArray t₁, .int at_ t₂, .int cnt t₃]) Q E ⟨h, g, d, tk, os⟩ := by
  refine callP (df_check_room w) W R.room rfl fun L h₁ tk₁ F => ?_
  have Y := (df_check_room w).fi
  (wtm_at "f0")
  refine wpAny_execs_cons ?_
  repeat (wtm_at "ev")
  refine r_ifF (by simp only [decide_eq_true_eq]; lia) ?_
  repeat (wtm_at "ev")
  refine r_ifF (by simp only [decide_eq_true_eq]; lia) ?_
  repeat (wtm_at "ev")
  exact hq _ _ F.keep
theorem le_cut {a : Int} {c n : Nat} (h0 : 0 ≤ a) (h1 : a + c ≤ n) : c ≤ n - a.toNat := by
  obtain ⟨m, rfl⟩ := Int.eq_ofNat_of_zero_le h0
  exact Nat.le_sub_of_add_le (by rw [Nat.add_comm]; exact Int.ofNat_le.mp h1)
theorem toNat_cut {b l : Int} (hb : 0 ≤ b) (hl : 0 ≤ l) : (b + l).toNat - b.toNat = l.toNat := by
  rw [Int.toNat_add hb hl, Nat.add_sub_cancel_left]
noncomputable def numL (l : List UInt8) : Int := l.foldl (fun t c => t * 256 + (c.toNat : Int)) 0
theorem numL_snoc (l : List UInt8) (c : UInt8) : numL (l ++ [c]) = numL l * 256 + (c.toNat : Int) := by simp [numL]
theorem numL_from : ∀ (l : List UInt8) (a : Int), l.foldl (fun t c => t * 256 + (c.toNat : Int)) a = a * 256 ^ l.length + numL l
  | [], a => by simp [numL]
  | c :: l, a => by
    have e : numL (c :: l) = (c.toNat : Int) * 256 ^ l.length + numL l := by
      show (c :: l).foldl _ 0 = _
      rw [List.foldl_cons, numL_from l]; simp
    rw [List.foldl_cons, numL_from l, e, List.length_cons, Int.pow_succ, Int.add_mul, Int.mul_comm (256 ^ l.length) 256, Int.mul_assoc]; lia
theorem numL_cons (c : UInt8) (l : List UInt8) : numL (c :: l) = (c.toNat : Int) * 256 ^ l.length + numL l := by
  rw [numL, List.foldl_cons, numL_from]; simp
theorem numL_bound : ∀ l : List UInt8, 0 ≤ numL l ∧ numL l < 256 ^ l.length
  | [] => by simp [numL]
  | c :: l => by
    have ih := numL_bound l
    rw [numL_cons, List.length_cons, Int.pow_succ]
    have hc := c.toNat_lt
    have hp : (0 : Int) < 256 ^ l.length := Int.pow_pos (by decide)
    generalize (256 : Int) ^ l.length = p at *
    have h1 : (0 : Int) ≤ (c.toNat : Int) * p := Int.mul_nonneg (by lia) (by lia)
    have h2 : (c.toNat : Int) * p ≤ 255 * p := Int.mul_le_mul_of_nonneg_right (by lia) (by lia)
    lia
theorem numL_bound4 {l : List UInt8} (h : l.length ≤ 4) : 0 ≤ numL l ∧ numL l < 2 ^ 32 := by
  have b := numL_bound l
  refine ⟨b.1, Int.lt_of_lt_of_le b.2 ?_⟩
  have : (256 : Int) ^ l.length ≤ 256 ^ 4 := by
    have := Nat.pow_le_pow_right (n := 256) (by lia) h
    exact_mod_cast this
  exact this
theorem and_byte {a c : Nat} (h : c < 256) : a * 2 ^ 8 &&& c = 0 := by
  apply Nat.eq_of_testBit_eq
  intro k
  rw [Nat.testBit_and, Nat.testBit_mul_two_pow, Nat.zero_testBit]
  by_cases q : 8 ≤ k
  · rw [Nat.testBit_lt_two_pow (Nat.lt_of_lt_of_le h (show 256 ≤ 2 ^ k from Nat.pow_le_pow_right (n := 2) (by lia) q))]; simp
  · simp [q]
theorem bitOr_byte {i c : Int} (h0 : 0 ≤ i) (c0 : 0 ≤ c) (c1 : c < 256) : Builtin.bitOr (i * 2 ^ (8 : Int).toNat) c = i * 256 + c := by
  obtain ⟨a, rfl⟩ := Int.eq_ofNat_of_zero_le h0
  obtain ⟨b, rfl⟩ := Int.eq_ofNat_of_zero_le c0
  have e : ((a : Int) * 2 ^ (8 : Int).toNat) = ((a * 2 ^ 8 : Nat) : Int) := by simp
  rw [e, bitOr_and, bitAnd_pp (by lia) (by lia)]
  simp only [Int.toNat_natCast]
  rw [and_byte (by lia)]; lia
theorem number_at_c {l : List UInt8} {t₁ t₂ t₃ : Tok} {at_ cnt : Int} {Q : Value → Shared → Prop} (W : Wd w mg mb mean h) (R : Rm 2 A) (hh : A.handled = none) (hl : l.length ≤ 16777216) (h0 : 0 ≤ at_) (hc : 0 ≤ cnt) (hc4 : cnt ≤ 4) (h1 : at_ + cnt ≤ l.length)
    (hq : ∀ h' t tk', Ext h h' → Q (.int (numL ((l.drop at_.toNat).take cnt.toNat)) t) ⟨h', g, d, tk', os⟩) : wpAny (Mo w) A (call (.ref 89) [.bytes l.toArray t₁, .int at_ t₂, .int cnt t₃]) Q E ⟨h, g, d, tk, os⟩ := by
  refine callP (df_number_at w) W R.room rfl fun L h₁ tk₁ F => ?_
  have hctt := toNat_cut h0 hc
  have Y := (df_number_at w).fi
  (wtm_at "f0")
  refine wpAny_execs_cons ?_
  repeat (wtm_at "ev")
  refine check_room_c (W.keeps F.keep) R.deep hl h0 h1 fun h2 tk2 k => ?_
  replace F := F.ext k
  repeat (wtm_at "ev")
  refine r_iterB (g := g) (d := d) (os := os) F fun I h3 oI F3 st3 _ => ?_
  clear F
  refine for_at 4 En.fn Y (KBw.walks (by exact hh) I _ _) st_bytes (fun i vs news => news = [] ∧ ∃ t c, vs = [some (.bytes l.toArray t₁), some (.int at_ t₂), some (.int cnt t₃), some (.int (numL (((l.drop at_.toNat).take ((at_ + cnt).toNat - at_.toNat)).take i)) t), c]) (fun b hb => .inl (List.mem_singleton.mp hb)) rfl F3 st3 ⟨rfl, _, _, rfl⟩ ?_ ?_
  · intro i v vs₁ news₁ h tk oI hi hJ0 hJ1 F
    (wtm_at "pc")
    obtain ⟨c, u, hc, rfl⟩ := hJ0
    obtain ⟨rfl, t, c', rfl⟩ := hJ1
    (wtm_at "pu")
    (wtm_at "fs")
    have hb := numL_bound4 (l := ((l.drop at_.toNat).take ((at_ + cnt).toNat - at_.toNat)).take i) (Nat.le_trans (List.length_take_le' _ _) (Nat.le_trans (List.length_take_le _ _) (by rw [hctt]; lia)))
    have hcl := c.toNat_lt
    repeat (wtm_at "ev")
    refine r_shl (by lia) (by lia) (by lia) ?_
    repeat (wtm_at "ev")
    have e : Builtin.bitOr (numL (((l.drop at_.toNat).take ((at_ + cnt).toNat - at_.toNat)).take i) * 2 ^ (8 : Int).toNat) (c.toNat : Int) = numL (((l.drop at_.toNat).take ((at_ + cnt).toNat - at_.toNat)).take (i + 1)) := by
      rw [bitOr_byte hb.1 (by lia) (by lia), List.take_add_one, show ((l.drop at_.toNat).take ((at_ + cnt).toNat - at_.toNat))[i]? = some c by simpa using hc, Option.toList_some, numL_snoc]
    rw [e] at F
    exact ⟨rfl, _, _, _, _, rfl, F, rfl, _, _, rfl⟩
  · intro vs₁ news₁ h tk hJ0 F
    (wtm_at "pc")
    obtain ⟨rfl, t, c', rfl⟩ := hJ0
    (wtm_at "pu")
    repeat (wtm_at "ev")
    rw [show ((l.drop at_.toNat).take ((at_ + cnt).toNat - at_.toNat)).take ((l.drop at_.toNat).take ((at_ + cnt).toNat - at_.toNat)).toArray.size = (l.drop at_.toNat).take cnt.toNat by
      rw [List.size_toArray, List.take_length, hctt]]
    exact hq _ _ _ F.keep
end
noncomputable def pad (n : Nat) : Nat := (4 - n % 4) % 4
theorem pad_fmod (n : Nat) : (-(n : Int)).fmod 4 = (pad n : Int) := by
  have h : ∀ r : Nat, r < 4 → (-(r : Int)) % 4 = (((4 - r) % 4 : Nat) : Int) := by decide
  rw [Int.fmod_eq_emod_of_nonneg _ (by decide), ← Int.zero_sub, Int.sub_emod, Int.zero_emod, Int.zero_sub]
  exact h (n % 4) (Nat.mod_lt n (y := 4) (by decide))
theorem pad_le (n : Nat) : pad n ≤ 3 := Nat.le_of_lt_succ (Nat.mod_lt _ (by decide))
noncomputable def fill (l : List UInt8) : List UInt8 := l ++ List.replicate (pad l.length) 0
theorem fill_length (l : List UInt8) : (fill l).length = l.length + pad l.length := by simp [fill]
theorem fill_mod (l : List UInt8) : (fill l).length % 4 = 0 := by
  have h : ∀ r : Nat, r < 4 → (r + ((4 - r) % 4) % 4) % 4 = 0 := by decide
  rw [fill_length, Nat.add_mod]
  exact h (l.length % 4) (Nat.mod_lt l.length (y := 4) (by decide))
noncomputable def totN (l : List UInt8) : Nat → Int
  | 0 => 0
  | k + 1 => totN l k + numL ((l.drop (4 * k)).take 4)
noncomputable def csum (l : List UInt8) : Int := totN (fill l) ((fill l).length / 4) % 2 ^ 32
theorem totN_bound (l : List UInt8) : ∀ k, 0 ≤ totN l k ∧ totN l k ≤ k * 2 ^ 32
  | 0 => by simp [totN]
  | k + 1 => by
    have := totN_bound l k
    have b := numL_bound4 (l := (l.drop (4 * k)).take 4) (by simp; lia)
    simp only [totN]; push_cast; lia
theorem csum_bound (l : List UInt8) : 0 ≤ csum l ∧ csum l < 2 ^ 32 := ⟨Int.emod_nonneg _ (by decide), Int.emod_lt_of_pos _ (by decide)⟩
theorem bitAnd_mask {x : Int} (h : 0 ≤ x) : Builtin.bitAnd x 4294967295 = x % 2 ^ 32 := by
  obtain ⟨n, rfl⟩ := Int.eq_ofNat_of_zero_le h
  rw [bitAnd_pp (by lia) (by decide)]
  simp only [Int.toNat_natCast]
  rw [show (4294967295 : Int).toNat = 2 ^ 32 - 1 by decide, Nat.and_two_pow_sub_one_eq_mod]
  rfl
section
variable {w : World} {A : Around} {E : Value → Shared → Prop} {h : Heap} {g : Array GenState} {d : Drawn} {tk : Nat} {os : OsState} {mg mb : Str → Option Value} {mean : ExcName → Option Value}
theorem u32_at_c {l : List UInt8} {t₁ t₂ : Tok} {at_ : Int} {Q : Value → Shared → Prop} (W : Wd w mg mb mean h) (R : Rm 3 A) (hh : A.handled = none) (hl : l.length ≤ 16777216) (h0 : 0 ≤ at_) (h1 : at_ + 4 ≤ l.length)
    (hq : ∀ h' t tk', Ext h h' → Q (.int (numL ((l.drop at_.toNat).take 4)) t) ⟨h', g, d, tk', os⟩) : wpAny (Mo w) A (call (.ref 96) [.bytes l.toArray t₁, .int at_ t₂]) Q E ⟨h, g, d, tk, os⟩ := by
  refine callP (df_u32_at w) W R.room rfl fun L h₁ tk₁ F => ?_
  have Y := (df_u32_at w).fi
  (wtm_at "f0")
  refine wpAny_execs_cons ?_
  repeat (wtm_at "ev")
  refine number_at_c (W.keeps F.keep) R.deep (by exact hh) hl h0 (by decide) (by decide) h1 fun h2 t2 tk2 k => ?_
  exact hq _ _ _ (F.keep.trans k)
theorem checksum_c {l : List UInt8} {t₁ : Tok} {Q : Value → Shared → Prop} (W : Wd w mg mb mean h) (R : Rm 3 A) (hh : A.handled = none) (hl : l.length ≤ 1000)
    (hq : ∀ h' t tk', Ext h h' → Q (.int (csum l) t) ⟨h', g, d, tk', os⟩) : wpAny (Mo w) A (call (.ref 283) [.bytes l.toArray t₁]) Q E ⟨h, g, d, tk, os⟩ := by
  refine callP (df_checksum w) W R.room rfl fun L h₁ tk₁ F => ?_
  have Y := (df_checksum w).fi
  (wtm_at "f0")
  have hp := pad_fmod l.length
  have hpl := pad_le l.length
  have hfl := fill_length l
  have hfm := fill_mod l
  refine wpAny_execs_cons ?_
  repeat (wtm_at "ev")
  rw [hp, Int.toNat_natCast, show l ++ List.replicate (pad l.length) 0 = fill l from rfl] at F
  rw [hp, Int.toNat_natCast, show l ++ List.replicate (pad l.length) 0 = fill l from rfl]
  clear hp
  obtain ⟨q, hq4⟩ : ∃ q, (fill l).length = 4 * q := ⟨_, (Nat.mul_div_cancel' (Nat.dvd_of_mod_eq_zero hfm)).symm⟩
  have hq5 : q ≤ 1000 := by clear hfm; lia
  have hdv : (fill l).length / 4 = q := by rw [hq4]; exact Nat.mul_div_cancel_left q (by decide)
  clear hfl hpl hfm
  repeat (wtm_at "ev")
  refine r_range3 F (by decide) (by decide) fun r h hr F _ => ?_
  repeat (wtm_at "ev")
  refine r_iterR ((fill l).length / 4) F hr (range_small (by decide) (by rw [hq4]; clear hdv hq4; lia) (by decide)) (by rw [rsz_pos (by decide), hdv, hq4]; clear hdv hq4; split <;> lia) fun I h3 oI F3 st3 _ => ?_
  clear F
  refine for_at 3 En.fn Y (Walks.range (by exact hh) I _ _ _) st_range (fun i vs news => news = [] ∧ ∃ t c, vs = [some (.bytes l.toArray t₁), some (.bytes (fill l).toArray tb), some (.int (totN (fill l) i) t), c]) (fun b hb => .inl (List.mem_singleton.mp hb)) rfl F3 st3 ⟨rfl, _, _, rfl⟩ ?_ ?_
  · intro i v vs₁ news₁ h tk oI hi hJ0 hJ1 F
    (wtm_at "pc")
    obtain ⟨u, rfl⟩ := hJ0
    obtain ⟨rfl, t, c', rfl⟩ := hJ1
    (wtm_at "pu")
    (wtm_at "fs")
    repeat (wtm_at "ev")
    rw [hdv] at hi
    refine number_at_c (W.keeps F.keep) R.deep (by exact hh) (by rw [hq4]; clear hdv hq4; lia) (by lia) (by decide) (by decide) (by rw [hq4]; clear hdv hq4; lia) fun h2 t2 tk2 k => ?_
    replace F := F.ext k
    repeat (wtm_at "ev")
    have e : totN (fill l) i + numL (((fill l).drop (0 + (i : Int) * 4).toNat).take (4 : Int).toNat) = totN (fill l) (i + 1) := by
      rw [totN, show (0 + (i : Int) * 4).toNat = 4 * i by lia]; rfl
    rw [e] at F
    exact ⟨rfl, _, _, _, _, rfl, F, rfl, _, _, rfl⟩
  · intro vs₁ news₁ h tk hJ0 F
    (wtm_at "pc")
    obtain ⟨rfl, t, c', rfl⟩ := hJ0
    (wtm_at "pu")
    repeat (wtm_at "ev")
    rw [bitAnd_mask (totN_bound _ _).1]
    exact hq _ _ _ F.keep
end
section
variable {w : World} {A : Around} {E : Value → Shared → Prop} {h : Heap} {g : Array GenState} {d : Drawn} {tk : Nat} {os : OsState} {mg mb : Str → Option Value} {mean : ExcName → Option Value}
theorem Rep.of {fs fs' : List (Str × Value)} {es : List DictEntry} (r : Rep fs es) (e : fs = fs') : Rep fs' es := e ▸ r
theorem Finding_new {tag what at_ : Value} {Q : Value → Shared → Prop} (W : Wd w mg mb mean h) (R : Rm 3 A)
    (hq : ∀ h' x dx es n tk', Ext h h' → (∀ p ∈ [(dx, dictOf es n), (x, instObj 456 dx)], h'.get? p.1 = some p.2 ∧ h.get? p.1 = none) → dx ≠ x → Rep [("tag", tag), ("what", what), ("at", at_)] es → Q (.ref x) ⟨h', g, d, tk', os⟩) :
    wpAny (Mo w) A (call (.ref 456) [tag, what, at_]) Q E ⟨h, g, d, tk, os⟩ := by
  refine r_new [("tag", tag), ("what", what), ("at", at_)] (df_Finding_init w) W R (by kernel_rfl) (by kernel_rfl) (by kernel_rfl) rfl (fun A' x dx L h₁ tk₁ Q' R' hh F hq' => ?_) hq
  have Y := (df_Finding_init w).fi
  have rep : Rep [] [] := trivial
  (wtm_at "f0")
  refine wpAny_execs_cons ?_
  repeat (wtm_at "ev")
  exact hq' _ _ _ _ _ _ F (rep.of (by kernel_rfl))
theorem Record_new {tag total begin length where_ : Value} {Q : Value → Shared → Prop} (W : Wd w mg mb mean h) (R : Rm 3 A)
    (hq : ∀ h' x dx es n tk', Ext h h' → (∀ p ∈ [(dx, dictOf es n), (x, instObj 308 dx)], h'.get? p.1 = some p.2 ∧ h.get? p.1 = none) → dx ≠ x → Rep [("tag", tag), ("total", total), ("begin", begin), ("length", length), ("where", where_)] es → Q (.ref x) ⟨h', g, d, tk', os⟩) :
    wpAny (Mo w) A (call (.ref 308) [tag, total, begin, length, where_]) Q E ⟨h, g, d, tk, os⟩ := by
  refine r_new [("tag", tag), ("total", total), ("begin", begin), ("length", length), ("where", where_)] (df_Record_init w) W R (by kernel_rfl) (by kernel_rfl) (by kernel_rfl) rfl (fun A' x dx L h₁ tk₁ Q' R' hh F hq' => ?_) hq
  have Y := (df_Record_init w).fi
  have rep : Rep [] [] := trivial
  (wtm_at "f0")
  refine wpAny_execs_cons ?_
  repeat (wtm_at "ev")
  exact hq' _ _ _ _ _ _ F (rep.of (by kernel_rfl))
theorem OctetsIn_new {data at_ : Value} {Q : Value → Shared → Prop} (W : Wd w mg mb mean h) (R : Rm 3 A)
    (hq : ∀ h' x dx es n tk', Ext h h' → (∀ p ∈ [(dx, dictOf es n), (x, instObj 180 dx)], h'.get? p.1 = some p.2 ∧ h.get? p.1 = none) → dx ≠ x → Rep [("data", data), ("at", at_)] es → Q (.ref x) ⟨h', g, d, tk', os⟩) :
    wpAny (Mo w) A (call (.ref 180) [data, at_]) Q E ⟨h, g, d, tk, os⟩ := by
  refine r_new [("data", data), ("at", at_)] (df_OctetsIn_init w) W R (by kernel_rfl) (by kernel_rfl) (by kernel_rfl) rfl (fun A' x dx L h₁ tk₁ Q' R' hh F hq' => ?_) hq
  have Y := (df_OctetsIn_init w).fi
  have rep : Rep [] [] := trivial
  (wtm_at "f0")
  refine wpAny_execs_cons ?_
  repeat (wtm_at "ev")
  exact hq' _ _ _ _ _ _ F (rep.of (by kernel_rfl))
theorem told_c {x : Addr} {tag what at_ : Value} {Q : Value → Shared → Prop} (W : Wd w mg mb mean h) (R : Rm 1 A) (I : At h x 456 [("tag", tag), ("what", what), ("at", at_)]) (h1 : handedIn tag = true) (h2 : handedIn what = true) (h3 : handedIn at_ = true)
    (hq : ∀ h' a tk', Ext h h' → h'.get? a = some (tpO [tag, what, at_]) → Q (.ref a) ⟨h', g, d, tk', os⟩) : wpAny (Mo w) A (call (.ref 453) [.ref x]) Q E ⟨h, g, d, tk, os⟩ := by
  refine callP (df_Finding_told w) W R.room rfl fun L h₁ tk₁ F => ?_
  have Y := (df_Finding_told w).fi
  (wtm_at "f0")
  have I := I.ext F.keep
  refine wpAny_execs_cons ?_
  repeat (wtm_at "ev")
  exact hq _ _ _ F.keep Ia
theorem Record_end_c {x : Addr} {tag total where_ : Value} {b l : Int} {t₁ t₂ : Tok} {Q : Value → Shared → Prop} (W : Wd w mg mb mean h) (R : Rm 1 A) (I : At h x 308 [("tag", tag), ("total", total), ("begin", .int b t₁), ("length", .int l t₂), ("where", where_)])
    (hq : ∀ h' t tk', Ext h h' → Q (.int (b + l) t) ⟨h', g, d, tk', os⟩) : wpAny (Mo w) A (call (.ref 305) [.ref x]) Q E ⟨h, g, d, tk, os⟩ := by
  refine callP (df_Record_end w) W R.room rfl fun L h₁ tk₁ F => ?_
  have Y := (df_Record_end w).fi
  (wtm_at "f0")
  have I := I.ext F.keep
  refine wpAny_execs_cons ?_
  repeat (wtm_at "ev")
  exact hq _ _ _ F.keep
end
noncomputable def beL : Nat → Nat → List UInt8
  | 0, _ => []
  | k + 1, n => (n / 256 ^ k).toUInt8 :: beL k n
theorem beL_length : ∀ k n, (beL k n).length = k
  | 0, _ => rfl
  | k + 1, n => by simp [beL, beL_length]
theorem ofNat_mod256 (n : Nat) : (n % 256).toUInt8 = n.toUInt8 := by
  apply UInt8.toNat_inj.mp; simp
theorem bitAnd_255 {x : Int} (h : 0 ≤ x) : Builtin.bitAnd x 255 = x % 256 := by
  obtain ⟨n, rfl⟩ := Int.eq_ofNat_of_zero_le h
  rw [bitAnd_pp (by lia) (by decide)]
  simp only [Int.toNat_natCast]
  rw [show (255 : Int).toNat = 2 ^ 8 - 1 by decide, Nat.and_two_pow_sub_one_eq_mod]
  rfl
noncomputable def octAt (n : Int) (c i : Nat) : Int := ((n.toNat / 256 ^ (c - 1 - i) % 256 : Nat) : Int)
theorem octAt_range (n : Int) (c i : Nat) : 0 ≤ octAt n c i ∧ octAt n c i < 256 := by unfold octAt; lia
theorem octAt_eq {n : Int} (h0 : 0 ≤ n) {c i : Nat} (hi : i < c) {p : Int} (hp : p = 8 * ((c : Int) - 1 + (i : Int) * (-1))) : Builtin.bitAnd (n.fdiv (2 ^ p.toNat)) 255 = octAt n c i := by
  obtain ⟨m, rfl⟩ := Int.eq_ofNat_of_zero_le h0
  have e : p.toNat = 8 * (c - 1 - i) := by
    obtain ⟨k, rfl⟩ := Nat.exists_eq_add_of_lt hi
    rw [Nat.add_sub_cancel, Nat.add_sub_cancel_left]
    have : p = ((8 * k : Nat) : Int) := by rw [hp]; push_cast; lia
    rw [this]; rfl
  have e2 : (2 : Int) ^ (8 * (c - 1 - i)) = ((256 ^ (c - 1 - i) : Nat) : Int) := by rw [Int.pow_mul]; push_cast; rfl
  rw [e, e2, Int.fdiv_eq_ediv_of_nonneg _ (Int.natCast_nonneg _), bitAnd_255 (Int.ediv_nonneg (by lia) (Int.natCast_nonneg _))]
  unfold octAt; simp only [Int.toNat_natCast]; lia
theorem octs_eq (n : Int) (c : Nat) (hc : c = 2 ∨ c = 4) : byteArr ((List.range c).map (octAt n c)) = (beL c n.toNat).toArray := by
  rcases hc with rfl | rfl
  · simp only [List.range, List.range.loop, List.map_cons, List.map_nil, octAt, byteArr, beL, Int.toNat_natCast, ofNat_mod256]
  · simp only [List.range, List.range.loop, List.map_cons, List.map_nil, octAt, byteArr, beL, Int.toNat_natCast, ofNat_mod256]
section
variable {w : World} {A : Around} {E : Value → Shared → Prop} {h : Heap} {g : Array GenState} {d : Drawn} {tk : Nat} {os : OsState} {mg mb : Str → Option Value} {mean : ExcName → Option Value}
theorem number_octets_c {n : Int} {c : Int} {t₁ t₂ : Tok} {Q : Value → Shared → Prop} (W : Wd w mg mb mean h) (R : Rm 3 A) (hh : A.handled = none) (hc : c = 2 ∨ c = 4) (h0 : 0 ≤ n) (h1 : n < 256 ^ c.toNat)
    (hq : ∀ h' t tk', Ext h h' → Q (.bytes (beL c.toNat n.toNat).toArray t) ⟨h', g, d, tk', os⟩) : wpAny (Mo w) A (call (.ref 189) [.int n t₁, .int c t₂]) Q E ⟨h, g, d, tk, os⟩ := by
  refine callPC (df_number_octets w) (by kernel_rfl) [some (.int c t₂)] W R.room rfl (fun i y v hi hv => ?_) fun L h₁ tk₁ cells Yc F => ?_
  · match i, hi, hv with
    | 0, hi, hv => cases hi; cases hv; kernel_rfl
    | n + 1, hi, _ => simp at hi
  have Y := (df_number_octets w).fi
  (wtm_at "pc")
  obtain ⟨oC, rfl, hco⟩ := CellsAre.one (n := "number") (c := L + 1) Yc
  (wtm_at "pu")
  replace hco : oC.data = .cell (some (.int n t₁)) := hco.trans (by kernel_rfl)
  have hcl : (cellsFrom (L + 1) (fnS (st 11)).names []).lookup ("number" : Str) = some (L + 1) := by kernel_rfl
  refine wpAny_execs_cons ?_
  repeat (wtm_at "ev")
  refine r_ifF (by simp only [decide_eq_true_eq]; lia) ?_
  repeat (wtm_at "ev")
  have hs : n.fdiv (2 ^ (8 * c).toNat) = 0 := by
    rcases hc with rfl | rfl
    · rw [Int.fdiv_eq_ediv_of_nonneg _ (by decide)]; exact Int.ediv_eq_zero_of_lt h0 h1
    · rw [Int.fdiv_eq_ediv_of_nonneg _ (by decide)]; exact Int.ediv_eq_zero_of_lt h0 h1
  refine r_shr (by lia) ?_
  rw [hs]
  repeat (wtm_at "ev")
  refine r_ifF (by decide) ?_
  repeat (wtm_at "ev")
  refine r_range3 F (by decide) (by decide) fun r h hr F _ => ?_
  refine r_iterR c.toNat F hr (range_small (by lia) (by lia) (by decide)) (by rw [rsz_neg]; split <;> lia) fun I h3 oI F3 st3 _ => ?_
  clear F
  have hclF : List.lookup ("number" : Str) [(("number" : Str), L + 1)] = some (L + 1) := by kernel_rfl
  refine comp_fin0 (nsC := ["place"]) (cnsC := ["number"]) (gsC := []) (bsC := []) 0 En.fnC rfl (Fi.of (by kernel_rfl)) (by decide +kernel) rfl (Walks.range (by exact hh) I _ _ _) st_range
    (fun i ys news => news = [(L + 1, oC)] ∧ IntsAre ys ((List.range i).map (octAt n c.toNat))) (fun b hb => .inl (List.mem_singleton.mp hb)) rfl (by rw [sizeLine_eq]; lia) W F3 st3 ⟨rfl, .nil⟩ ?_ ?_
  · intro hb C D i v ys news₁ h tk oI ep Y W keep hi hJ0 hJ1 F en
    (wtm_at "pc")
    obtain ⟨u, rfl⟩ := hJ0
    obtain ⟨rfl, hys⟩ := hJ1
    (wtm_at "pu")
    (wtm_at "fs")
    repeat (wtm_at "ev")
    refine r_shr (by lia) ?_
    repeat (wtm_at "ev")
    rw [octAt_eq (c := c.toNat) h0 hi (by lia)]
    refine ⟨_, _, _, _, rfl, F, rfl, ?_⟩
    rw [List.range_succ, List.map_append]
    exact hys.append (.cons _ _ .nil)
  · intro D ys news₁ h tk ep hJ0 F
    (wtm_at "pc")
    obtain ⟨rfl, hys⟩ := hJ0
    (wtm_at "pu")
    repeat (wtm_at "ev")
    refine call_bytes_ints (l := D) ⟨_, F.get (.head _), rfl, _, rfl⟩ hys (fun m hm => ?_) (by rw [hys.length, sizeLine_eq]; simp; lia) (by exact hh) fun h' t k kx => ?_
    · (wtm_at "pc")
      obtain ⟨i, _, rfl⟩ := List.mem_map.mp hm
      (wtm_at "pu")
      exact octAt_range _ _ _
    · rw [octs_eq n c.toNat (by lia)]
      exact hq _ _ _ (F.keep.trans kx)
end
section
variable {w : World} {A : Around} {E : Value → Shared → Prop} {h h₀ : Heap} {g : Array GenState} {d : Drawn} {tk : Nat} {os : OsState} {mg mb : Str → Option Value} {mean : ExcName → Option Value}
  {L x dx : Addr} {ns : List Str} {vs : List (Option Value)} {news : List (Addr × Obj)} {es : List DictEntry} {n : Nat} {l : List UInt8} {t₀ t₁ t₂ : Tok} {a c : Int}
noncomputable abbrev rdr (l : List UInt8) (t : Tok) (a : Int) (u : Tok) : List (Str × Value) := [("data", .bytes l.toArray t), ("at", .int a u)]
theorem In_need_c {Q : Value → Shared → Prop} (W : Wd w mg mb mean h₀) (F : Fm h₀ L ns vs ((dx, dictOf es n) :: (x, instObj 180 dx) :: news) h) (R : Rm 2 A) (rep : Rep (rdr l t₀ a t₁) es) (hl : l.length ≤ 16777216) (h0 : 0 ≤ a) (h1 : a + c ≤ l.length)
    (hq : ∀ h' es' n' u tk', Fm h₀ L ns vs ((dx, dictOf es' n') :: (x, instObj 180 dx) :: news) h' → Rep (rdr l t₀ a u) es' → Q .none ⟨h', g, d, tk', os⟩) : wpAny (Mo w) A (call (.ref 118) [.ref x, .int c t₂]) Q E ⟨h, g, d, tk, os⟩ := by
  refine callMut (fun v fs => v = .none ∧ fs = rdr l t₀ a t₁) (df_OctetsIn_need w) W F R.room rfl (fun hb L' h₁ tk₁ W F => ?_) fun h' es' n' v tk' fs F' r' hv => by obtain ⟨rfl, rfl⟩ := hv; exact hq _ _ _ _ _ F' r'
  have Y := (df_OctetsIn_need w).fi
  have I := F.at_ rep
  (wtm_at "f0")
  refine wpAny_execs_cons ?_
  repeat (wtm_at "ev")
  refine check_room_c (W.keeps F.keep) R.deep hl h0 h1 fun h2 tk2 k => ?_
  replace F := F.ext k
  repeat (wtm_at "ev")
  exact ⟨_, _, _, _, _, _, _, rfl, ⟨rfl, rfl⟩, F, rep⟩
theorem In_number_c {Q : Value → Shared → Prop} (W : Wd w mg mb mean h₀) (F : Fm h₀ L ns vs ((dx, dictOf es n) :: (x, instObj 180 dx) :: news) h) (R : Rm 4 A) (hh : A.handled = none) (rep : Rep (rdr l t₀ a t₁) es) (hl : l.length ≤ 16777216) (h0 : 0 ≤ a) (hc : 0 ≤ c) (hc4 : c ≤ 4) (h1 : a + c ≤ l.length)
    (hq : ∀ h' es' n' u t tk', Fm h₀ L ns vs ((dx, dictOf es' n') :: (x, instObj 180 dx) :: news) h' → Rep (rdr l t₀ (a + c) u) es' → Q (.int (numL ((l.drop a.toNat).take c.toNat)) t) ⟨h', g, d, tk', os⟩) : wpAny (Mo w) A (call (.ref 125) [.ref x, .int c t₂]) Q E ⟨h, g, d, tk, os⟩ := by
  refine callMut (fun v fs => ∃ t u, v = .int (numL ((l.drop a.toNat).take c.toNat)) t ∧ fs = rdr l t₀ (a + c) u) (df_OctetsIn_number w) W F R.room rfl (fun hb L' h₁ tk₁ W F => ?_) fun h' es' n' v tk' fs F' r' hv => by obtain ⟨t, u, rfl, rfl⟩ := hv; exact hq _ _ _ _ _ _ F' r'
  have Y := (df_OctetsIn_number w).fi
  have I := F.at_ rep
  (wtm_at "f0")
  refine wpAny_execs_cons ?_
  repeat (wtm_at "ev")
  refine number_at_c (W.keeps F.keep) R.deep.le (by exact hh) hl h0 hc hc4 h1 fun h2 t2 tk2 k => ?_
  replace F := F.ext k
  clear I
  repeat (wtm_at "ev")
  have I := F.at_ rep
  repeat (wtm_at "ev")
  (try dsimp only)
  exact ⟨_, _, _, _, _, _, rdr l t₀ (a + c) (tk2 + 1 + 1), rfl, ⟨_, _, rfl, rfl⟩, F, rep.of (by kernel_rfl)⟩
theorem In_u16_c {Q : Value → Shared → Prop} (W : Wd w mg mb mean h₀) (F : Fm h₀ L ns vs ((dx, dictOf es n) :: (x, instObj 180 dx) :: news) h) (R : Rm 5 A) (hh : A.handled = none) (rep : Rep (rdr l t₀ a t₁) es) (hl : l.length ≤ 16777216) (h0 : 0 ≤ a) (h1 : a + 2 ≤ l.length)
    (hq : ∀ h' es' n' u t tk', Fm h₀ L ns vs ((dx, dictOf es' n') :: (x, instObj 180 dx) :: news) h' → Rep (rdr l t₀ (a + 2) u) es' → Q (.int (numL ((l.drop a.toNat).take 2)) t) ⟨h', g, d, tk', os⟩) : wpAny (Mo w) A (call (.ref 139) [.ref x]) Q E ⟨h, g, d, tk, os⟩ := by
  refine callMut (fun v fs => ∃ t u, v = .int (numL ((l.drop a.toNat).take 2)) t ∧ fs = rdr l t₀ (a + 2) u) (df_OctetsIn_u16 w) W F R.room rfl (fun hb L' h₁ tk₁ W F => ?_) fun h' es' n' v tk' fs F' r' hv => by obtain ⟨t, u, rfl, rfl⟩ := hv; exact hq _ _ _ _ _ _ F' r'
  have Y := (df_OctetsIn_u16 w).fi
  have I := F.at_ rep
  (wtm_at "f0")
  refine wpAny_execs_cons ?_
  repeat (wtm_at "ev")
  refine In_number_c W F R.deep (by exact hh) rep hl h0 (by decide) (by decide) h1 fun h' es' n' u t tk' F' r' => ?_
  exact ⟨_, _, _, _, _, _, _, rfl, ⟨_, _, rfl, rfl⟩, F', r'⟩
theorem In_u32_c {Q : Value → Shared → Prop} (W : Wd w mg mb mean h₀) (F : Fm h₀ L ns vs ((dx, dictOf es n) :: (x, instObj 180 dx) :: news) h) (R : Rm 5 A) (hh : A.handled = none) (rep : Rep (rdr l t₀ a t₁) es) (hl : l.length ≤ 16777216) (h0 : 0 ≤ a) (h1 : a + 4 ≤ l.length)
    (hq : ∀ h' es' n' u t tk', Fm h₀ L ns vs ((dx, dictOf es' n') :: (x, instObj 180 dx) :: news) h' → Rep (rdr l t₀ (a + 4) u) es' → Q (.int (numL ((l.drop a.toNat).take 4)) t) ⟨h', g, d, tk', os⟩) : wpAny (Mo w) A (call (.ref 160) [.ref x]) Q E ⟨h, g, d, tk, os⟩ := by
  refine callMut (fun v fs => ∃ t u, v = .int (numL ((l.drop a.toNat).take 4)) t ∧ fs = rdr l t₀ (a + 4) u) (df_OctetsIn_u32 w) W F R.room rfl (fun hb L' h₁ tk₁ W F => ?_) fun h' es' n' v tk' fs F' r' hv => by obtain ⟨t, u, rfl, rfl⟩ := hv; exact hq _ _ _ _ _ _ F' r'
  have Y := (df_OctetsIn_u32 w).fi
  have I := F.at_ rep
  (wtm_at "f0")
  refine wpAny_execs_cons ?_
  repeat (wtm_at "ev")
  refine In_number_c W F R.deep (by exact hh) rep hl h0 (by decide) (by decide) h1 fun h' es' n' u t tk' F' r' => ?_
  exact ⟨_, _, _, _, _, _, _, rfl, ⟨_, _, rfl, rfl⟩, F', r'⟩
end
noncomputable def tagS (l : List UInt8) : Str := ⟨(l.map (·.toNat)).toArray⟩
section
variable {w : World} {A : Around} {E : Value → Shared → Prop} {h h₀ : Heap} {g : Array GenState} {d : Drawn} {tk : Nat} {os : OsState} {mg mb : Str → Option Value} {mean : ExcName → Option Value}
  {L x dx : Addr} {ns : List Str} {vs : List (Option Value)} {news : List (Addr × Obj)} {es : List DictEntry} {n : Nat} {l : List UInt8} {t₀ t₁ t₂ : Tok} {a c : Int}
theorem rep_at {v : Value} {u : Tok} (r : Rep (setF "at" v (rdr l t₀ a u)) es) : Rep [("data", .bytes l.toArray t₀), ("at", v)] es := r.of (by kernel_rfl)
theorem carried_snoc : ∀ {ys : List Value} {ds : List PyData} {y : Value} {d : PyData}, CarriedAll ys ds → Carried y d → CarriedAll (ys ++ [y]) (ds ++ [d])
  | _, _, _, _, .nil, c => .cons c .nil
  | _, _, _, _, .cons a r, c => .cons a (carried_snoc r c)
theorem tag_join (l : List UInt8) (h : l.length = 4) : PySem.Txt.join (PySem.Str.ofString "") (l.map fun c => (⟨#[c.toNat]⟩ : Str)) = tagS l := by
  match l, h with
  | [a, b, c, d], _ => rfl
theorem In_tag_c {Q : Value → Shared → Prop} (W : Wd w mg mb mean h₀) (F : Fm h₀ L ns vs ((dx, dictOf es n) :: (x, instObj 180 dx) :: news) h) (R : Rm 5 A) (hh : A.handled = none) (rep : Rep (rdr l t₀ a t₁) es) (hl : l.length ≤ 16777216) (h0 : 0 ≤ a) (h1 : a + 4 ≤ l.length)
    (hq : ∀ h' es' n' u t tk', Fm h₀ L ns vs ((dx, dictOf es' n') :: (x, instObj 180 dx) :: news) h' → Rep (rdr l t₀ (a + 4) u) es' → Q (.str (tagS ((l.drop a.toNat).take 4)) t) ⟨h', g, d, tk', os⟩) : wpAny (Mo w) A (call (.ref 165) [.ref x]) Q E ⟨h, g, d, tk, os⟩ := by
  refine callMut (fun v fs => ∃ t u, v = .str (tagS ((l.drop a.toNat).take 4)) t ∧ fs = rdr l t₀ (a + 4) u) (df_OctetsIn_tag w) W F R.room rfl (fun hb L' h₁ tk₁ W F => ?_) fun h' es' n' v tk' fs F' r' hv => by obtain ⟨t, u, rfl, rfl⟩ := hv; exact hq _ _ _ _ _ _ F' r'
  have Y := (df_OctetsIn_tag w).fi
  have I := F.at_ rep
  (wtm_at "f0")
  refine wpAny_execs_cons ?_
  repeat (wtm_at "ev")
  refine In_need_c W F R.deep.le rep hl h0 h1 fun h₁ es n u tk₁ F rep => ?_
  have I := F.at_ rep
  repeat (wtm_at "ev")
  refine r_iterB (g := g) (d := d) (os := os) F fun I h3 oI F3 st3 _ => ?_
  clear F
  have hlen : ((l.drop a.toNat).take ((a + 4).toNat - a.toNat)).length = 4 := by rw [List.length_take, List.length_drop, toNat_cut h0 (by decide)]; exact Nat.min_eq_left (le_cut (c := 4) h0 h1)
  refine comp_fin0 (nsC := ["code"]) (cnsC := []) (gsC := []) (bsC := [("chr", .builtin "chr")]) 0 En.fn rfl (Fi.of (by kernel_rfl)) (by decide +kernel) rfl (KBw.walks (by exact hh) I _ _) st_bytes
    (fun i ys news => news = [(dx, dictOf es n), (x, instObj 180 dx)] ∧ CarriedAll ys ((((l.drop a.toNat).take ((a + 4).toNat - a.toNat)).take i).map fun c => PyData.str ⟨#[c.toNat]⟩)) (fun b hb => .inl (List.mem_singleton.mp hb)) rfl (by rw [sizeLine_eq, List.size_toArray, hlen]; lia) W F3 st3 ⟨rfl, by rw [List.take_zero]; exact .nil⟩ ?_ ?_
  · intro hb C D i v ys news₁ h tk oI ep Y W keep hi hJ0 hJ1 F en
    (wtm_at "pc")
    obtain ⟨c, u, hc, rfl⟩ := hJ0
    obtain ⟨rfl, hys⟩ := hJ1
    (wtm_at "pu")
    (wtm_at "fs")
    repeat (wtm_at "ev")
    have hcl := c.toNat_lt
    refine chr_of_range (by lia) (by lia) ?_
    refine ⟨_, _, _, _, rfl, F, rfl, ?_⟩
    rw [List.take_add_one, show ((l.drop a.toNat).take ((a + 4).toNat - a.toNat))[i]? = some c by simpa using hc, Option.toList_some, List.map_append]
    exact carried_snoc hys (.str _ _)
  · intro D ys news₁ h tk ep hJ0 F
    (wtm_at "pc")
    obtain ⟨rfl, hys⟩ := hJ0
    (wtm_at "pu")
    repeat (wtm_at "ev")
    rw [List.size_toArray, List.take_length] at hys
    refine KT.join_1 (D := D) (l := (l.drop a.toNat).take ((a + 4).toNat - a.toNat)) (g := fun c => ⟨#[c.toNat]⟩) ⟨_, F.get (.head _), rfl, _, rfl⟩ hys (fun _ _ => rfl) (by lia) fun t' k e => ?_
    rw [tag_join _ hlen, show (a + 4).toNat - a.toNat = 4 from toNat_cut h0 (by decide)]
    exact ⟨_, _, _, _, _, _, _, rfl, ⟨_, _, rfl, rfl⟩, (F.drop (.cons _ (.refl _))), rep_at rep⟩
noncomputable abbrev recF (l : List UInt8) (p : Nat) (t1 t2 t3 t4 t5 : Tok) : List (Str × Value) := [("tag", .str (tagS ((l.drop p).take 4)) t1), ("total", .int (numL ((l.drop (p + 4)).take 4)) t2), ("begin", .int (numL ((l.drop (p + 8)).take 4)) t3), ("length", .int (numL ((l.drop (p + 12)).take 4)) t4), ("where", .int p t5)]
theorem read_record_c {hB : Heap} {p : Nat} {Q : Value → Shared → Prop} (W : Wd w mg mb mean hB) (R : Rm 6 A) (hh : A.handled = none) (hl : l.length ≤ 16777216) (h1 : p + 16 ≤ l.length)
    (hq : ∀ h' x dx es n t1 t2 t3 t4 tk', Ext hB h' → (∀ q ∈ [(dx, dictOf es n), (x, instObj 308 dx)], h'.get? q.1 = some q.2 ∧ hB.get? q.1 = none) → dx ≠ x → Rep (recF l p t1 t2 t3 t4 t₁) es → Q (.ref x) ⟨h', g, d, tk', os⟩) : wpAny (Mo w) A (call (.ref 326) [.bytes l.toArray t₀, .int p t₁]) Q E ⟨hB, g, d, tk, os⟩ := by
  refine callP (df_read_record w) W R.room rfl fun L h₁ tk₁ F => ?_
  have Y := (df_read_record w).fi
  (wtm_at "f0")
  refine wpAny_execs_cons ?_
  repeat (wtm_at "ev")
  refine OctetsIn_new (W.keeps F.keep) R.deep.le fun h' x dx es n tk' k hn ne rep => ?_
  replace F := F.fresh k hn (by simp [ne])
  dsimp only [List.cons_append, List.nil_append] at F
  repeat (wtm_at "ev")
  refine In_tag_c W F R.deep (by exact hh) rep hl (by lia) (by lia) fun h es n u t1 tk F rep => ?_
  repeat (wtm_at "ev")
  refine In_u32_c W F R.deep (by exact hh) rep hl (by lia) (by lia) fun h es n u t2 tk F rep => ?_
  repeat (wtm_at "ev")
  refine In_u32_c W F R.deep (by exact hh) rep hl (by lia) (by lia) fun h es n u t3 tk F rep => ?_
  repeat (wtm_at "ev")
  refine In_u32_c W F R.deep (by exact hh) rep hl (by lia) (by lia) fun h es n u t4 tk F rep => ?_
  repeat (wtm_at "ev")
  refine Record_new (W.keeps F.keep) R.deep.le fun h' x dx es n tk' k hn ne rep => ?_
  have e2 : ((p : Int) + 4).toNat = p + 4 := by lia
  have e3 : ((p : Int) + 4 + 4).toNat = p + 8 := by lia
  have e4 : ((p : Int) + 4 + 4 + 4).toNat = p + 12 := by lia
  rw [e2, e3, e4, Int.toNat_natCast] at rep
  refine hq _ _ _ _ _ _ _ _ _ _ (F.keep.trans k) (fun q hq => ⟨(hn q hq).1, ?_⟩) ne rep
  cases z : hB.get? q.1 with
  | none => rfl
  | some o => have := (hn q hq).2; rw [F.keep _ _ z] at this; cases this
end
section
variable {w : World} {A : Around} {E : Value → Shared → Prop} {h : Heap} {g : Array GenState} {d : Drawn} {tk : Nat} {os : OsState} {mg mb : Str → Option Value} {mean : ExcName → Option Value}
  {l : List UInt8} {t₀ t₁ t₂ : Tok} {tag : Str} {n : Nat}
theorem directory_size_c' {n : Int} {Q : Value → Shared → Prop} (W : Wd w mg mb mean h) (R : Rm 1 A)
    (hq : ∀ h' t tk', Ext h h' → Q (.int (12 + 16 * n) t) ⟨h', g, d, tk', os⟩) : wpAny (Mo w) A (call (.ref 319) [.int n t₁]) Q E ⟨h, g, d, tk, os⟩ := by
  refine callP (df_directory_size w) W R.room rfl fun L h₁ tk₁ F => ?_
  have Y := (df_directory_size w).fi
  (wtm_at "f0")
  refine wpAny_execs_cons ?_
  repeat (wtm_at "ev")
  exact hq _ _ _ F.keep
noncomputable def hasAdj (tag : Str) (l : List UInt8) : Bool := decide (tag = "head") && decide (12 ≤ l.length)
theorem has_adjustment_c {Q : Value → Shared → Prop} (W : Wd w mg mb mean h) (R : Rm 1 A) (hl : l.length ≤ 16777216)
    (hq : ∀ h' tk', Ext h h' → Q (.bool (hasAdj tag l)) ⟨h', g, d, tk', os⟩) : wpAny (Mo w) A (call (.ref 362) [.str tag t₁, .bytes l.toArray t₀]) Q E ⟨h, g, d, tk, os⟩ := by
  refine callP (df_has_adjustment w) W R.room rfl fun L h₁ tk₁ F => ?_
  have Y := (df_has_adjustment w).fi
  (wtm_at "f0")
  refine wpAny_execs_cons ?_
  repeat (wtm_at "ev")
  refine r_if (fun c => ?_) fun c => ?_
  · repeat (wtm_at "ev")
    have e : hasAdj tag l = decide ((8 : Int) + 4 ≤ (l.length : Int)) := by
      unfold hasAdj; rw [c, Bool.true_and]; exact decide_eq_decide.mpr (by lia)
    have := hq h₁ (tk₁ + 1 + 2 + 1 + 1) F.keep
    rw [e] at this; exact this
  · have e : hasAdj tag l = decide (tag = "head") := by
      unfold hasAdj
      cases z : decide (tag = "head") with
      | false => rfl
      | true => exact absurd z c
    have := hq h₁ (tk₁ + 1) F.keep
    rw [e] at this; exact this
noncomputable def unadj (tag : Str) (l : List UInt8) : List UInt8 := if hasAdj tag l then l.take 8 ++ List.replicate 4 0 ++ l.drop 12 else l
theorem unadjusted_c {Q : Value → Shared → Prop} (W : Wd w mg mb mean h) (R : Rm 2 A) (hl : l.length ≤ 1000)
    (hq : ∀ h' t tk', Ext h h' → Q (.bytes (unadj tag l).toArray t) ⟨h', g, d, tk', os⟩) : wpAny (Mo w) A (call (.ref 369) [.str tag t₁, .bytes l.toArray t₀]) Q E ⟨h, g, d, tk, os⟩ := by
  refine callP (df_unadjusted w) W R.room rfl fun L h₁ tk₁ F => ?_
  have Y := (df_unadjusted w).fi
  (wtm_at "f0")
  refine wpAny_execs_cons ?_
  repeat (wtm_at "ev")
  refine has_adjustment_c (W.keeps F.keep) R.deep (by lia) fun h2 tk2 k => ?_
  replace F := F.ext k
  repeat (wtm_at "ev")
  refine r_if (fun c => ?_) fun c => ?_
  · have e : hasAdj tag l = false := by simpa using c
    have := hq h2
    repeat (wtm_at "ev")
    unfold unadj at hq
    rw [e] at hq
    exact hq _ _ _ F.keep
  · have e : hasAdj tag l = true := by simpa using c
    repeat (wtm_at "ev")
    unfold unadj at hq
    rw [e, if_pos rfl] at hq
    exact hq _ _ _ F.keep
theorem unadj_length : (unadj tag l).length = l.length := by
  unfold unadj hasAdj
  split
  · rename_i e
    simp only [Bool.and_eq_true, decide_eq_true_eq] at e
    simp; lia
  · rfl
theorem table_sum_c {Q : Value → Shared → Prop} (W : Wd w mg mb mean h) (R : Rm 4 A) (hh : A.handled = none) (hl : l.length ≤ 1000)
    (hq : ∀ h' t tk', Ext h h' → Q (.int (csum (unadj tag l)) t) ⟨h', g, d, tk', os⟩) : wpAny (Mo w) A (call (.ref 376) [.str tag t₁, .bytes l.toArray t₀]) Q E ⟨h, g, d, tk, os⟩ := by
  refine callP (df_table_sum w) W R.room rfl fun L h₁ tk₁ F => ?_
  have Y := (df_table_sum w).fi
  (wtm_at "f0")
  refine wpAny_execs_cons ?_
  repeat (wtm_at "ev")
  refine unadjusted_c (W.keeps F.keep) R.deep.le hl fun h2 t2 tk2 k => ?_
  replace F := F.ext k
  repeat (wtm_at "ev")
  refine checksum_c (W.keeps F.keep) R.deep (by exact hh) (by rw [unadj_length]; exact hl) fun h2 t2 tk2 k => ?_
  exact hq _ _ _ (F.keep.trans k)
theorem to_fours_c {Q : Value → Shared → Prop} (W : Wd w mg mb mean h) (R : Rm 1 A) (hl : l.length ≤ 1000)
    (hq : ∀ h' t tk', Ext h h' → Q (.bytes (fill l).toArray t) ⟨h', g, d, tk', os⟩) : wpAny (Mo w) A (call (.ref 395) [.bytes l.toArray t₀]) Q E ⟨h, g, d, tk, os⟩ := by
  refine callP (df_to_fours w) W R.room rfl fun L h₁ tk₁ F => ?_
  have Y := (df_to_fours w).fi
  (wtm_at "f0")
  have hp := pad_fmod l.length
  have hpl : pad l.length ≤ 3 := by unfold pad; lia
  refine wpAny_execs_cons ?_
  repeat (wtm_at "ev")
  rw [hp]
  repeat (wtm_at "ev")
  rw [Int.toNat_natCast]
  exact hq _ _ _ F.keep
end
section
variable {w : World} {A : Around} {E : Value → Shared → Prop} {h : Heap} {g : Array GenState} {d : Drawn} {tk : Nat} {os : OsState} {mg mb : Str → Option Value} {mean : ExcName → Option Value}
  {D : Addr} {xs : List Value} {rs : List RecD} {t₀ t₁ t₂ : Tok} {size : Int}
theorem need_in_order_c {Q : Value → Shared → Prop} (W : Wd w mg mb mean h) (R : Rm 3 A) (hh : A.handled = none) (hl : Ls h D xs) (hr : Recs h xs rs) (hn : rs.length ≤ 1000)
    (asc : ∀ (i : Nat) (a b : RecD), rs[i]? = some a → rs[i + 1]? = some b → a.tag.cps.toList < b.tag.cps.toList) (ends : ∀ r ∈ rs, r.begin + r.length ≤ size)
    (hq : ∀ h' tk', Ext h h' → Q .none ⟨h', g, d, tk', os⟩) : wpAny (Mo w) A (call (.ref 333) [.ref D, .int size t₁]) Q E ⟨h, g, d, tk, os⟩ := by
  refine callP (df_need_in_order w) W R.room rfl fun L h₁ tk₁ F => ?_
  have Y := (df_need_in_order w).fi
  (wtm_at "f0")
  have hlen := hr.len
  refine wpAny_execs_cons ?_
  repeat (wtm_at "ev")
  refine r_lenL (hl.ext F.keep) (by lia) ?_
  repeat (wtm_at "ev")
  refine r_range1 F fun r h t1 t3 tk hR F _ => ?_
  repeat (wtm_at "ev")
  refine r_iterR rs.length F hR (range_small (by lia) (by lia) (by decide)) (by rw [rsz_pos (by decide)]; split <;> lia) fun I h3 oI F3 st3 _ => ?_
  clear F
  refine for_at 2 En.fn Y (Walks.range (by exact hh) I _ _ _) st_range (fun i vs news => news = [] ∧ ∃ c1 c2, vs = [some (.ref D), some (.int size t₁), c1, c2]) (fun b hb => .inl (List.mem_singleton.mp hb)) rfl F3 st3 ⟨rfl, _, _, rfl⟩ ?_ ?_
  · intro i v vs₁ news₁ h tk oI hi hJ0 hJ1 F
    (wtm_at "pc")
    obtain ⟨u, rfl⟩ := hJ0
    obtain ⟨rfl, c1, c2, rfl⟩ := hJ1
    (wtm_at "pu")
    (wtm_at "fs")
    repeat (wtm_at "ev")
    (wtm_at "pc")
    obtain ⟨v, hv, x, u1, u2, u3, u4, u5, rfl, I1⟩ := hr.get hi
    (wtm_at "pu")
    refine item_listL (hl.ext F.keep) (by lia) (by lia) (x := .ref x) (by rw [show (0 + (i : Int) * 1).toNat = i by rw [Int.zero_add, Int.mul_one]; rfl]; exact hv) ?_
    repeat (wtm_at "ev")
    refine r_if (fun c => ?_) fun c => ?_
    · have c' : 0 < i := by simpa using c
      repeat (wtm_at "ev")
      (wtm_at "pc")
      obtain ⟨v, hv', x', u1', u2', u3', u4', u5', rfl, I2⟩ := hr.get (i := i - 1) (by lia)
      (wtm_at "pu")
      refine item_listL (hl.ext F.keep) (by lia) (by lia) (x := .ref x') (by rw [show (0 + (i : Int) * 1 - 1).toNat = i - 1 by rw [Int.zero_add, Int.mul_one]; exact Int.toNat_sub i 1]; exact hv') ?_
      repeat (wtm_at "ev")
      refine r_geS ?_
      repeat (wtm_at "ev")
      have hlt := asc (i - 1) rs[i - 1] rs[i] (List.getElem?_eq_getElem (by lia)) (by rw [show i - 1 + 1 = i from Nat.sub_add_cancel (by lia)]; exact List.getElem?_eq_getElem hi)
      refine r_ifF (by simp [hlt]) ?_
      repeat (wtm_at "ev")
      refine Record_end_c (W.keeps F.keep) R.deep.le (I1.ext F.keep) fun h2 t2 tk2 k => ?_
      replace F := F.ext k
      repeat (wtm_at "ev")
      refine r_ifF (by simp only [decide_eq_true_eq]; have := ends rs[i] (List.getElem_mem hi); lia) ?_
      repeat (wtm_at "ev")
      exact ⟨rfl, _, _, _, _, rfl, F, rfl, _, _, rfl⟩
    · repeat (wtm_at "ev")
      refine Record_end_c (W.keeps F.keep) R.deep.le (I1.ext F.keep) fun h2 t2 tk2 k => ?_
      replace F := F.ext k
      repeat (wtm_at "ev")
      refine r_ifF (by simp only [decide_eq_true_eq]; have := ends rs[i] (List.getElem_mem hi); lia) ?_
      repeat (wtm_at "ev")
      exact ⟨rfl, _, _, _, _, rfl, F, rfl, _, _, rfl⟩
  · intro vs₁ news₁ h tk hJ0 F
    (wtm_at "pc")
    obtain ⟨rfl, c1, c2, rfl⟩ := hJ0
    (wtm_at "pu")
    repeat (wtm_at "ev")
    exact hq _ _ F.keep
end
section
variable {w : World} {A : Around} {E : Value → Shared → Prop} {h : Heap} {g : Array GenState} {d : Drawn} {tk : Nat} {os : OsState} {mg mb : Str → Option Value} {mean : ExcName → Option Value}
  {D : Addr} {xs : List Value} {rs : List RecD} {t₀ t₁ t₂ : Tok} {behind : Int}
noncomputable def RowAt (news : List (Addr × Obj)) (v : Value) (b e wh : Int) : Prop := ∃ a t1 t2 t3, v = .ref a ∧ (a, tpO [.int b t1, .int e t2, .int wh t3]) ∈ news
noncomputable def full (rs : List RecD) : List RecD := rs.filter fun r => decide (0 < r.length)
structure Rows (news : List (Addr × Obj)) (ys : List Value) (rs : List RecD) : Prop where
  len : ys.length = rs.length
  at_ : ∀ (i : Nat) (v : Value) (r : RecD), ys[i]? = some v → rs[i]? = some r → RowAt news v r.begin (r.begin + r.length) r.wh
theorem need_apart_c {Q : Value → Shared → Prop} (W : Wd w mg mb mean h) (R : Rm 3 A) (hh : A.handled = none) (hl : Ls h D xs) (hr : Recs h xs rs) (hn : (full rs).length ≤ 6) (hn2 : rs.length ≤ 1000)
    (ap : ∀ (i : Nat) (a b : RecD), (full rs)[i]? = some a → (full rs)[i + 1]? = some b → a.begin + a.length ≤ b.begin) (h0 : 0 < behind) (fst : ∀ r ∈ full rs, behind ≤ r.begin)
    (hq : ∀ h' tk', Ext h h' → Q .none ⟨h', g, d, tk', os⟩) : wpAny (Mo w) A (call (.ref 338) [.ref D, .int 0 t₀, .int behind t₁]) Q E ⟨h, g, d, tk, os⟩ := by
  refine callP (df_need_apart w) W R.room rfl fun L h₁ tk₁ F => ?_
  have Y := (df_need_apart w).fi
  (wtm_at "f0")
  have hlen := hr.len
  refine wpAny_execs_cons ?_
  refine r_acomp _ ?_ (by rfl) (by rfl) (by rfl) (by decide +kernel)
  repeat (wtm_at "ev")
  refine r_iterL F (hl.ext F.keep) fun I h3 oI F3 st3 neI k3 => ?_
  refine comp_finA (nsC := ["one"]) (cnsC := []) (gsC := []) (bsC := []) 0 3 En.fn Y rfl rfl (Fi.of (by kernel_rfl)) (by decide +kernel) rfl (Walks.list (by exact hh) I D (Ne.symm neI) xs.toArray) st_list
    (fun i ys news => Rows news ys (full (rs.take i))) (fun b hb => ?_) rfl (by rw [sizeLine_eq]; simp; lia) W F3 st3 ⟨rfl, fun i v r e => by simp at e⟩ ?_ ?_
  · rcases List.mem_cons.mp hb with rfl | q
    · exact .inl rfl
    · obtain rfl := List.mem_singleton.mp q
      (wtm_at "pc")
      obtain ⟨o, e, _⟩ := st3.2
      (wtm_at "pu")
      exact .inr (.inl ⟨⟨o, e⟩, by simpa using Ne.symm neI⟩)
  · rintro hb C D' i v ys news₁ h tk oI ep Y W keep hi pv rows F en
    have kx : Ext _ hb := fun b o e => keep b o (by
      have := (F3.led _ (.head _)).2.2
      intro q
      have q' : b = I := by simpa using q
      rw [q', this] at e; cases e) (F3.keep _ _ e)
    (wtm_at "fs")
    refine r_test1 ?_
    have hv : xs[i]? = some v := by simpa using pv
    have hi' : i < rs.length := by rw [← hlen]; simpa using hi
    obtain ⟨rr, hrr⟩ : ∃ rr, rs[i]? = some rr := ⟨_, List.getElem?_eq_getElem hi'⟩
    have mrr := List.mem_of_getElem? hrr
    (wtm_at "pc")
    obtain ⟨x, u1, u2, u3, u4, u5, rfl, I1⟩ := hr.at_ i v rr hv (hrr)
    (wtm_at "pu")
    replace I1 := I1.ext kx
    have ef : full (rs.take (i + 1)) = full (rs.take i) ++ if 0 < rr.length then [rr] else [] := by
      unfold full
      rw [List.take_add_one, hrr, Option.toList_some, List.filter_append, List.filter_cons]
      simp
    repeat (wtm_at "ev")
    refine r_if (fun c => ?_) fun c => ?_
    · have c' : 0 < rr.length := by simpa using c
      repeat (wtm_at "ev")
      refine Record_end_c (W.keeps F.keep) R.deep.le (I1.ext F.keep) fun h2 t2 tk2 k => ?_
      replace F := F.ext k
      repeat (wtm_at "ev")
      rw [if_pos c'] at ef
      refine ⟨_, _, _, _, rfl, FT.perm (.trans (.swap _ _ _) (.cons _ (.swap _ _ _))), ?_⟩
      rw [ef]
      refine ⟨by simp [rows.len], fun j z r e1 e2 => ?_⟩
      by_cases q : j < ys.length
      · rw [List.getElem?_append_left q] at e1
        rw [List.getElem?_append_left (by rw [← rows.len]; exact q)] at e2
        (wtm_at "pc")
        obtain ⟨a', y1, y2, y3, e, m⟩ := rows.at_ j z r e1 e2
        (wtm_at "pu")
        exact ⟨a', y1, y2, y3, e, .tail _ m⟩
      · have hj : j = ys.length := by
          have := (List.getElem?_eq_some_iff.mp e1).1
          simp at this; lia
        subst hj
        rw [List.getElem?_append_right (Nat.le_refl _), Nat.sub_self] at e1
        rw [rows.len, List.getElem?_append_right (Nat.le_refl _), Nat.sub_self] at e2
        cases e1; cases e2
        exact ⟨_, _, _, _, rfl, .head _⟩
    · have c' : ¬ 0 < rr.length := by simpa using c
      rw [if_neg c', List.append_nil] at ef
      refine ⟨_, _, _, _, rfl, F, ?_⟩
      rw [ef]; exact rows
  · rintro D2 ys news₁ h tk ep rows F
    have hx : full (rs.take xs.toArray.size) = full rs := by rw [List.size_toArray, hlen, List.take_length]
    rw [hx] at rows
    (wtm_at "fs")
    repeat (wtm_at "ev")
    refine BMeth.append (F.get (.head _)) ?_
    repeat (wtm_at "ev")
    clear F
    refine r_append FT.swap (by rw [rows.len]; lia) fun h n' F => ?_
    repeat (wtm_at "ev")
    refine r_sortLine (ks := (full rs).map (·.begin)) (k0 := 0) F (Ls.of (F.get (.head _))) ⟨by simp [rows.len], fun i v k e1 e2 => ?_⟩ (by rw [rows.len]; exact hn) (fun i a b e1 e2 => ?_) (fun k hk => ?_) fun S h n2 F => ?_
    · by_cases q : i < ys.length
      · rw [List.getElem?_append_left q] at e1
        rw [List.getElem?_append_left (by simpa [← rows.len] using q), List.getElem?_map] at e2
        (wtm_at "pc")
        obtain ⟨r, er, rfl⟩ := Option.map_eq_some_iff.mp e2
        (wtm_at "pu")
        (wtm_at "pc")
        obtain ⟨a', y1, y2, y3, e, m⟩ := rows.at_ i v r e1 er
        (wtm_at "pu")
        exact ⟨a', y1, _, e, .tail _ (.tail _ m)⟩
      · have hj : i = ys.length := by
          have := (List.getElem?_eq_some_iff.mp e1).1
          simp at this; lia
        subst hj
        rw [List.getElem?_append_right (Nat.le_refl _), Nat.sub_self] at e1
        rw [show ys.length = ((full rs).map (·.begin)).length by simp [rows.len], List.getElem?_append_right (Nat.le_refl _), Nat.sub_self] at e2
        cases e1; cases e2
        exact ⟨_, _, _, rfl, .tail _ (.head _)⟩
    · rw [List.getElem?_map] at e1 e2
      (wtm_at "pc")
      obtain ⟨r1, er1, rfl⟩ := Option.map_eq_some_iff.mp e1
      (wtm_at "pu")
      (wtm_at "pc")
      obtain ⟨r2, er2, rfl⟩ := Option.map_eq_some_iff.mp e2
      (wtm_at "pu")
      have := ap i r1 r2 er1 er2
      have hp : 0 < r1.length := by
        have := List.mem_of_getElem? er1
        unfold full at this
        simpa using (List.mem_filter.mp this).2
      lia
    · (wtm_at "pc")
      obtain ⟨r, hr', rfl⟩ := List.mem_map.mp hk
      (wtm_at "pu")
      have := fst r hr'
      lia
    · repeat (wtm_at "ev")
      have hyl := rows.len
      refine r_lenL (Ls.of (F.get (.head _))) (by simp; lia) ?_
      repeat (wtm_at "ev")
      refine r_range2 F fun r h t3 tk hR F _ => ?_
      repeat (wtm_at "ev")
      refine r_iterR ys.length F hR (range_small (by simp) (by simp; lia) (by decide)) (by rw [rsz_pos (by decide)]; simp only [List.length_cons]; split <;> lia) fun I h3 oI F3 st3 _ => ?_
      obtain ⟨LE, hLE⟩ : ∃ l, l = (S, lsO (Value.ref a :: ys) n2) :: (D2, lsO (ys ++ [Value.ref a]) n') :: (a, tpO [Value.int 0 t₀, Value.int behind t₁, Value.int 0 t₀]) :: news₁ := ⟨_, rfl⟩
      rw [← hLE] at F3
      have mS : (S, lsO (Value.ref a :: ys) n2) ∈ LE := by rw [hLE]; exact .head _
      have mA : (a, tpO [Value.int 0 t₀, Value.int behind t₁, Value.int 0 t₀]) ∈ LE := by rw [hLE]; exact .tail _ (.tail _ (.head _))
      have mR : ∀ p ∈ news₁, p ∈ LE := fun p hp => by rw [hLE]; exact .tail _ (.tail _ (.tail _ hp))
      clear F
      refine for_at 4 En.fn Y (Walks.range (by exact hh) I _ _ _) st_range (fun i vs news => news = LE ∧ ∃ c, vs = [some (.ref D), some (.int 0 t₀), some (.int behind t₁), some (.ref S), c]) (fun b hb => .inl (List.mem_singleton.mp hb)) rfl F3 st3 ⟨rfl, _, rfl⟩ ?_ ?_
      · intro i v vs₁ nn h tk oI hi hJ0 hJ1 F
        (wtm_at "pc")
        obtain ⟨u, rfl⟩ := hJ0
        obtain ⟨rfl, c, rfl⟩ := hJ1
        (wtm_at "pu")
        (wtm_at "fs")
        repeat (wtm_at "ev")
        have hi2 : i < (full rs).length := by rw [← hyl]; exact hi
        obtain ⟨fi, hfi⟩ : ∃ fi, (full rs)[i]? = some fi := ⟨_, List.getElem?_eq_getElem hi2⟩
        obtain ⟨yi, hyi⟩ : ∃ yi, ys[i]? = some yi := ⟨_, List.getElem?_eq_getElem hi⟩
        (wtm_at "pc")
        obtain ⟨a1, b1, b2, b3, e1, m1⟩ := rows.at_ i yi fi hyi hfi
        (wtm_at "pu")
        refine item_listL (Ls.of (F.get (.tail _ mS))) (by lia) (by lia) (x := .ref a1) (by rw [show (1 + (i : Int) * 1).toNat = i + 1 by lia, List.getElem?_cons_succ, hyi, e1]) ?_
        repeat (wtm_at "ev")
        refine r_itemT (j := 0) (Tp.of (F.get (.tail _ (mR _ m1)))) (by decide) (by decide) (by rfl) (by rfl) ?_
        repeat (wtm_at "ev")
        have memi : fi ∈ full rs := List.mem_of_getElem? hfi
        cases i with
        | zero =>
          refine item_listL (Ls.of (F.get (.tail _ mS))) (by lia) (by lia) (x := .ref a) (by rw [show (1 + ((0 : Nat) : Int) * 1 - 1).toNat = 0 by lia]; rfl) ?_
          repeat (wtm_at "ev")
          refine r_itemT (j := 1) (Tp.of (F.get (.tail _ mA))) (by decide) (by decide) (by rfl) (by rfl) ?_
          repeat (wtm_at "ev")
          have := fst _ memi
          refine r_ifF (by simp only [decide_eq_true_eq]; lia) ?_
          repeat (wtm_at "ev")
          exact ⟨rfl, _, _, _, _, rfl, F, rfl, _, rfl⟩
        | succ i =>
          obtain ⟨fj, hfj⟩ : ∃ fj, (full rs)[i]? = some fj := ⟨_, List.getElem?_eq_getElem (Nat.lt_of_succ_lt hi2)⟩
          obtain ⟨yj, hyj⟩ : ∃ yj, ys[i]? = some yj := ⟨_, List.getElem?_eq_getElem (Nat.lt_of_succ_lt hi)⟩
          (wtm_at "pc")
          obtain ⟨a2, c1, c2, c3, e2, m2⟩ := rows.at_ i yj fj hyj hfj
          (wtm_at "pu")
          refine item_listL (Ls.of (F.get (.tail _ mS))) (by lia) (by lia) (x := .ref a2) (by rw [show (1 + ((i + 1 : Nat) : Int) * 1 - 1).toNat = i + 1 by lia, List.getElem?_cons_succ, hyj, e2]) ?_
          repeat (wtm_at "ev")
          refine r_itemT (j := 1) (Tp.of (F.get (.tail _ (mR _ m2)))) (by decide) (by decide) (by rfl) (by rfl) ?_
          repeat (wtm_at "ev")
          have := ap i fj fi hfj hfi
          refine r_ifF (by simp only [decide_eq_true_eq]; lia) ?_
          repeat (wtm_at "ev")
          exact ⟨rfl, _, _, _, _, rfl, F, rfl, _, rfl⟩
      · intro vs₁ nn h tk hJ0 F
        (wtm_at "pc")
        obtain ⟨rfl, c, rfl⟩ := hJ0
        (wtm_at "pu")
        repeat (wtm_at "ev")
        exact hq _ _ F.keep
end
section
variable {w : World} {A : Around} {E : Value → Shared → Prop} {hB : Heap} {g : Array GenState} {d : Drawn} {tk : Nat} {os : OsState} {mg mb : Str → Option Value} {mean : ExcName → Option Value}
  {t₀ t₁ t₂ : Tok}
theorem search_numbers_c {n : Int} {Q : Value → Shared → Prop} (W : Wd w mg mb mean hB) (R : Rm 1 A) (hh : A.handled = none) (h0 : 2 ≤ n) (h1 : n ≤ 6)
    (hq : ∀ h' a (p st : Int) t1 t2 t3 tk', Ext hB h' → 1 ≤ p → p ≤ n → 0 ≤ st → st < p → h'.get? a = some (tpO [.int (16 * p) t1, .int st t2, .int (16 * (n - p)) t3]) → Q (.ref a) ⟨h', g, d, tk', os⟩) : wpAny (Mo w) A (call (.ref 388) [.int n t₁]) Q E ⟨hB, g, d, tk, os⟩ := by
  refine callP (df_search_numbers w) W R.room rfl fun L h₁ tk₁ F => ?_
  have Y := (df_search_numbers w).fi
  (wtm_at "f0")
  refine wpAny_execs_cons ?_
  refine Assign_Tuple ?_
  repeat (wtm_at "ev")
  refine r_unpack2 (by exact hh) (Tp.of Ia) fun h' k => ?_
  replace F := F.ext k
  repeat (wtm_at "ev")
  refine wpAny_While ?_
  refine codeAny_whileLoop (fun k s' => ∃ p st t1 t2 h₁ tk₁, s' = ⟨h₁, g, d, tk₁, os⟩ ∧ Fm hB L ["count", "power", "steps"] [some (.int n t₁), some (.int p t1), some (.int st t2)] [] h₁ ∧ 1 ≤ p ∧ p ≤ n ∧ 0 ≤ st ∧ st < p ∧ (k : Int) = 6 - p) ?_ 5 ⟨1, 0, _, _, _, _, rfl, F, by lia, by lia, by lia, by lia, by lia⟩
  intro k s' hJ0
  (wtm_at "pc")
  obtain ⟨p, st, t1, t2, h₁, tk₁, rfl, F, p1, p2, s1, s2, ek⟩ := hJ0
  (wtm_at "pu")
  repeat (wtm_at "ev")
  refine r_if (fun c => ?_) fun c => ?_
  · have c' : 2 * p ≤ n := by simpa using c
    repeat (wtm_at "ev")
    exact ⟨(6 - 2 * p).toNat, by lia, 2 * p, st + 1, _, _, _, _, rfl, F, by lia, by lia, by lia, by lia, by lia⟩
  · repeat (wtm_at "ev")
    exact hq _ _ _ _ _ _ _ _ F.keep p1 p2 s1 s2 Ia
end
noncomputable abbrev kS (w : World) := PySem.strKind pw w
theorem upl_entry : entryFor table "dict.update.loop" = some Builtin.«dict.update.loop» := entryFor_of_tree (by kernel_rfl)
theorem upl_plain : plainId "dict.update.loop" = true := by decide +kernel
structure Prs (news : List (Addr × Obj)) (xs : List Value) (kvs : List (Str × Value)) : Prop where
  len : xs.length = kvs.length
  at_ : ∀ (i : Nat) (v : Value) (p : Str × Value), xs[i]? = some v → kvs[i]? = some p → ∃ a t, v = .ref a ∧ (a, tpO [.str p.1 t, p.2]) ∈ news
section
variable {w : World} {A : Around} {E : Value → Shared → Prop} {h₀ h : Heap} {g : Array GenState} {d : Drawn} {tk : Nat} {os : OsState} {L D a : Addr} {mg mb : Str → Option Value} {mean : ExcName → Option Value} {ns : List Str} {vs : List (Option Value)} {news : List (Addr × Obj)} {xs : List Value} {kvs : List (Str × Value)}
theorem keys_list {k : Nat} {Q : Option Value → Shared → Prop} (hA : A.handled = none) (hx : h.get? a = some { cls := .type "list", data := .seq xs.toArray k }) (hq : ∀ h' tk', Ext h h' → Q none ⟨h', g, d, tk', os⟩) :
    wpAny (Mo w) A (getAttr? (.ref a) "keys") Q E ⟨h, g, d, tk, os⟩ := by
  have hT : ∀ tk', (⟨h, g, d, tk', os⟩ : Shared).TypeIs (.ref a) "list" := fun _ => ⟨_, hx, rfl⟩
  have f1 := sub_AttributeError
  have f3 := F.slot_list_getattribute.lookup
  have f4 := F.slot_list_getattribute.bind (.ref a)
  have f5 := am_list_getattr_none
  have hmiss : typeLookup (.type "list") ("keys" : Str) = pure none := am_miss_of_fast (by kernel_rfl)
  unfold getAttr? getAttrBy? getAttrBy
  repeat (any_goals (first | assumption | exact hT _ | ((with_reducible show wpAny _ _ (call (Value.builtin "list.__getattribute__") _ _) _ _ _); refine call_meets F.slot_list_getattribute (hT _) am_entry_list_getattribute (F.args_list_getattribute_2 _ _) (meets_getattribute_miss_list a xs.toArray k #[] "keys" _ hmiss (by decide +kernel)) ⟨hx, hA, fun h' tk' e hx' => ?_⟩) | wp_step))
  (wtm_at "pc")
  obtain ⟨t', u', he⟩ := hx'.there
  (wtm_at "pu")
  show wpAny _ _ (getattributeRaised _ _ _ _ _ _ _) _ _ _
  unfold getattributeRaised
  repeat (any_goals (first | assumption | wp_step))
  exact hq _ _ hx'.keeps
theorem stored_new {K : Type} [DecidableEq K] {kvs : List (K × Value)} {k : K} {v : Value} (hk : k ∉ kvs.map (·.1)) : stored kvs k v = kvs ++ [(k, v)] := by
  unfold stored
  rw [if_neg]
  intro q
  rw [List.any_eq_true] at q
  (wtm_at "pc")
  obtain ⟨p, hp, e⟩ := q
  (wtm_at "pu")
  exact hk (List.mem_map.mpr ⟨p, hp, by simpa using e⟩)
theorem upl {I t : Addr} {R : Result → Shared → Prop} (hh : A.handled = none) (nI : I ≠ D) (hx : Prs news xs kvs) (nd : (kvs.map (·.1)).Nodup) (hn : kvs.length ≤ 1000) (hD : ∀ h, Fm h₀ L ns vs news h → Ls h D xs) :
    ∀ (k i : Nat) (h : Heap) (tk : Nat) (oI od : Obj) (u : Tok), i + k = xs.length → Fm h₀ L ns vs ((t, od) :: (I, oI) :: news) h → (h.IsListIter I D i ∧ h.IsList D xs.toArray) → od.IsDictOf (kS w) (kvs.take i) →
      (∀ h' tk' od', Fm h₀ L ns vs ((t, od') :: news) h' → od'.IsDictOf (kS w) kvs → R (.ok (.ret .none)) ⟨h', g, d, tk', os⟩) →
      codeAny (Mo w) A (.builtin "dict.update.loop" ⟨[.ref t, .ref I, .int i u, .none], []⟩) R ⟨h, g, d, tk, os⟩ := by
  have Wk := Walks.list (prog := pw) (w := w) (A := A.in1) (by exact hh) I D (Ne.symm nI) xs.toArray
  have hlen := hx.len
  intro k
  induction k with
  | zero =>
    intro i h tk oI od u hi F st hd hR
    obtain rfl : i = xs.length := by lia
    refine codeAny_builtin upl_entry ?_
    rw [Around.under_plainId upl_plain _]
    show wpAny _ A.in1 (pyNext (.ref I) >>= _) _ _ _
    refine wpAny_bind (Wk.done _ _ _ (by simpa using st) fun h' tk' kx => ?_)
    have kx' : Heap.ExtBut I h h' := fun b o hb e => kx b o (by simpa using hb) e
    refine wpAny_bind (wpAny_pure (wpAny_pure ?_))
    rw [hlen, List.take_length] at hd
    exact hR _ _ _ (F.swap.dropMut kx') hd
  | succ k ih =>
    intro i h tk oI od u hi F st hd hR
    have hlt : i < xs.length := by lia
    refine codeAny_builtin upl_entry ?_
    rw [Around.under_plainId upl_plain _]
    show wpAny _ A.in1 (pyNext (.ref I) >>= _) _ _ _
    refine wpAny_bind (Wk.item i _ _ _ (by simpa using hlt) st fun v h' tk' hv st' kx => ?_)
    have kx' : Heap.ExtBut I h h' := fun b o hb e => kx b o (by simpa using hb) e
    obtain ⟨oI', hI'⟩ := st_list _ _ st'
    replace F := (F.swap.mutH kx' hI').swap
    (wtm_at "pc")
    obtain ⟨a, u1, rfl, ma⟩ := hx.at_ i v kvs[i] (by simpa using hv) (List.getElem?_eq_getElem (by lia))
    (wtm_at "pu")
    have ha := F.get (.tail _ (.tail _ ma))
    refine wpAny_bind (wpAny_holding (wpAny_bind (wpAny_tryCatch ?_)))
    unfold Builtin.Dict.pairItems
    refine wpAny_bind (wpAny_typeOf (T := "tuple") ⟨_, ha, rfl⟩ ?_)
    rw [if_pos (by decide)]
    refine wpAny_bind ?_
    show wpAny _ _ (load a >>= _) _ _ _
    refine wpAny_bind (wpAny_load ha (wpAny_pure (wpAny_pure ?_)))
    show wpAny _ _ (holding [Value.str kvs[i].1 u1, kvs[i].2] (dictSet t (Value.str kvs[i].1 u1) kvs[i].2)) _ _ _
    have ht := F.get (.head _)
    have hik : i < kvs.length := by lia
    have hnew : kvs[i].1 ∉ (kvs.take i).map (·.1) := by
      intro q
      (wtm_at "pc")
      obtain ⟨p, hp, e⟩ := List.mem_map.mp q
      (wtm_at "pu")
      (wtm_at "pc")
      obtain ⟨j, hj, ej⟩ := List.getElem_of_mem hp
      (wtm_at "pu")
      rw [List.getElem_take] at ej
      have hj' : j < i := by have := hj; rw [List.length_take] at this; lia
      have hjk : j < kvs.length := by lia
      have := getElem?_inj_of_nodup nd (i := j) (j := i) (x := kvs[i].1) (by rw [List.getElem?_map, List.getElem?_eq_getElem hjk, ej, Option.map_some, e]) (by rw [List.getElem?_map, List.getElem?_eq_getElem hik]; rfl)
      lia
    refine wpAny_holding (wpAny_dictSet_pairs (knd := kS w) (k := kvs[i].1) (hsz := ?_) (strKind_is _ _ _ _) (Heap.dictOf_iff.mpr ⟨od, ht, hd⟩) fun h3 hm hs => ?_)
    rotate_left
    · rw [List.length_take, sizeLine_eq]; lia
    rw [stored_new hnew] at hm
    (wtm_at "pc")
    obtain ⟨od3, ho3, hd3⟩ := Heap.dictOf_iff.mp hm
    (wtm_at "pu")
    have F3 := F.mutH hs.extBut ho3
    refine wpAny_pure ⟨plainId_quiet upl_plain _, ?_⟩
    have et : kvs.take i ++ [(kvs[i].1, kvs[i].2)] = kvs.take (i + 1) := by
      rw [List.take_add_one, List.getElem?_eq_getElem hik]; rfl
    rw [et] at hd3
    have ei : (i : Int) + 1 = ((i + 1 : Nat) : Int) := by lia
    rw [ei]
    refine ih (i + 1) h3 _ oI' od3 _ (by lia) F3 ⟨?_, ?_⟩ hd3 hR
    · (wtm_at "pc")
      obtain ⟨o, ho, r⟩ := st'.1
      (wtm_at "pu")
      have ne : I ≠ t := fun q => by
        have nd := F.nd
        rw [List.map_cons, List.map_cons, List.nodup_cons] at nd
        exact nd.1 (by rw [show (t, od).1 = (I, oI').1 from q.symm]; exact .head _)
      exact ⟨o, hs.extBut _ _ ne ho, r⟩
    · exact hD _ (F3.drop (.cons _ (.cons _ (.refl _))))
theorem r_dictPairs {n : Nat} {Q : Value → Shared → Prop} (W : Wd w mg mb mean h₀) (F : Fm h₀ L ns vs news h) (hh : A.handled = none) (hD : (D, lsO xs n) ∈ news) (hx : Prs news xs kvs) (nd : (kvs.map (·.1)).Nodup) (hn : kvs.length ≤ 1000)
    (hq : ∀ t od h' tk', Fm h₀ L ns vs ((t, od) :: news) h' → od.IsDictOf (kS w) kvs → (t == sysModules) = false → Q (.ref t) ⟨h', g, d, tk', os⟩) :
    wpAny (Mo w) A (call (.type "dict") [.ref D]) Q E ⟨h, g, d, tk, os⟩ := by
  refine callType_codes (Q₁ := fun obj s₁ => obj = .ref h.objs.size ∧ s₁ = ⟨h.push { cls := .type "dict", data := .dict #[] }, g, d, tk, os⟩) PySem.F.kt_called_dict (PySem.F.kt_typeCall_dict_1 _) PySem.F.entry_dict_init (kt_code_dict_new _ ⟨rfl, rfl⟩) ?_
  intro obj s₁ hJ0
  (wtm_at "pc")
  obtain ⟨rfl, rfl⟩ := hJ0
  (wtm_at "pu")
  have hnew : (h.push { cls := .type "dict", data := .dict #[] }).DictOf (kS w) h.objs.size [] := Heap.DictOf.new h
  have F1 := F.push { cls := .type "dict", data := .dict #[] }
  refine ⟨hnew.typeIs, PySem.F.args_dict_init_2 _ _, ?_⟩
  unfold Builtin.«dict.__init__»
  refine wpAny_bind ?_
  unfold Builtin.Dict.selfAndRest
  refine wpAny_bind (wpAny_notOrdered_dict hnew.typeIs ?_)
  show wpAny _ _ (pure (h.objs.size, [Value.ref D])) _ _ _
  refine wpAny_pure ?_
  show wpAny _ _ (Builtin.Dict.updateFrom "dict.__init__" h.objs.size (.ref D) [] .none) _ _ _
  unfold Builtin.Dict.updateFrom
  have hDx := F1.get (.tail _ hD)
  refine wpAny_bind (wpAny_typeOf (T := "list") ⟨_, hDx, rfl⟩ ?_)
  rw [if_pos (by decide)]
  refine wpAny_bind (keys_list (by exact hh) hDx fun h2 tk2 k2 => ?_)
  have F2 := F1.ext k2
  rw [if_pos (show (none : Option Value).isNone = true from rfl)]
  refine wpAny_bind (wpAny_rule ?_)
  refine wpAny_bind (r_iterL F2 (Ls.of (F2.get (.tail _ hD))) fun I h3 oI F3 st3 neI k3 => ?_)
  refine wpAny_pure ⟨plainId_quiet upl_plain _, ?_⟩
  have lo : (h.objs.size == sysModules) = false := by
    (wtm_at "pc")
    obtain ⟨m, f, _⟩ := F.fr
    (wtm_at "pu")
    exact f.notModules (modules_low W.t.nolimit)
  have hd0 : Obj.IsDictOf (kS w) { cls := .type "dict", data := .dict #[] } [] := by
    (wtm_at "pc")
    obtain ⟨o, ho, r⟩ := Heap.dictOf_iff.mp hnew
    (wtm_at "pu")
    rw [Heap.get?_push_size _ rfl] at ho; cases ho; exact r
  refine upl (news := news) (xs := xs) (kvs := kvs) (D := D) (by exact hh) neI hx nd hn (fun h F => Ls.of (F.get hD)) xs.length 0 h3 _ oI _ _ (by lia) F3.swap st3 (by simpa using hd0) fun h' tk' od' F' hd' => ?_
  exact ⟨rfl, hq _ _ _ _ F' hd' lo⟩
end
structure Dk (w : World) (h : Heap) (a : Addr) (kvs : List (Str × Value)) : Prop where
  of : h.DictOf (kS w) a kvs
  lo : (a == sysModules) = false
section
variable {w : World} {A : Around} {E : Value → Shared → Prop} {h₀ h h' : Heap} {g : Array GenState} {d : Drawn} {tk : Nat} {os : OsState} {L D a b : Addr} {mg mb : Str → Option Value} {mean : ExcName → Option Value} {ns : List Str} {vs : List (Option Value)} {news : List (Addr × Obj)} {kvs kvs' : List (Str × Value)} {k : Str} {v : Value} {t : Tok} {o : Obj} {env : Env} {pos : Pos}
theorem Dk.ext (l : Dk w h a kvs) (k : Ext h h') : Dk w h' a kvs := ⟨l.of.keep k, l.lo⟩
theorem Dk.led (F : Fm h₀ L ns vs news h) (hm : (a, o) ∈ news) (hd : o.IsDictOf (kS w) kvs) (lo : (a == sysModules) = false) : Dk w h a kvs := ⟨Heap.dictOf_iff.mpr ⟨o, F.get hm, hd⟩, lo⟩
theorem Dk.nodup (l : Dk w h a kvs) : (kvs.map (·.1)).Nodup := let ⟨_, _, _, _, _, _, _, _, hn⟩ := l.of; hn
theorem Fm.lo (W : Wd w mg mb mean h₀) (F : Fm h₀ L ns vs news h) : (h.objs.size == sysModules) = false := by
  (wtm_at "pc")
  obtain ⟨m, f, _⟩ := F.fr
  (wtm_at "pu")
  exact f.notModules (modules_low W.t.nolimit)
theorem r_lenD {Q : Value → Shared → Prop} (l : Dk w h a kvs) (hn : kvs.length ≤ 1000) (hq : Q (.int kvs.length (tk + 1)) ⟨h, g, d, tk + 2, os⟩) : wpAny (Mo w) A (call (.builtin "len") [.ref a]) Q E ⟨h, g, d, tk, os⟩ :=
  call_len_dict l.lo l.of (by lia) hq
theorem r_inD {Q : Value → Shared → Prop} (l : Dk w h a kvs) (hq : Q (.bool (valueAt kvs k).isSome) ⟨h, g, d, tk + 1, os⟩) : wpAny (Mo w) A (compareOp .In (.str k t) (.ref a)) Q E ⟨h, g, d, tk, os⟩ :=
  wpAny_in_of (knd := kS w) (strKind_is _ _ _ _) l.lo l.of.mapOf hq
theorem r_notInD {Q : Value → Shared → Prop} (l : Dk w h a kvs) (hq : Q (.bool (!(valueAt kvs k).isSome)) ⟨h, g, d, tk + 1, os⟩) : wpAny (Mo w) A (compareOp .NotIn (.str k t) (.ref a)) Q E ⟨h, g, d, tk, os⟩ :=
  wpAny_notIn_of (knd := kS w) (strKind_is _ _ _ _) l.lo l.of.mapOf hq
theorem r_itemD {value slice : PySem.Expr} {Q : Value → Shared → Prop} (l : Dk w h a kvs) (hv : valueAt kvs k = some v) (hq : Q v ⟨h, g, d, tk + 1, os⟩)
    (hs : subscripted slice false (.ref a) (.str k t) = operate [.ref a, .str k t] (getItem (.ref a) (.str k t)) := by with_unfolding_all rfl) (hg : ∀ r, letTemporaryGo value (.ref a) r = pure () := by intro _; with_unfolding_all rfl) :
    wpAny (Mo w) A (subscriptTail value slice (.ref a) (.str k t)) Q E ⟨h, g, d, tk, os⟩ :=
  subscriptTail_builtin (T := "dict") l.of.typeIs slot_dict_getitem.lookup (wpAny_getItem_of (knd := kS w) (strKind_is _ _ _ _) l.of.mapOf hv hq) hs hg
theorem r_iterD {Q : Value → Shared → Prop} (F : Fm h₀ L ns vs news h) (l : Dk w h a kvs) (hq : ∀ I h' oI ep, Fm h₀ L ns vs ((I, oI) :: news) h' → (h'.IsKeyIter I a 0 kvs.length ep ∧ h'.DictAt (kS w) a kvs ep) → a ≠ I → Ext h h' → Q (.ref I) ⟨h', g, d, tk, os⟩) :
    wpAny (Mo w) A (pyIter (.ref a)) Q E ⟨h, g, d, tk, os⟩ := by
  obtain ⟨ep, hm⟩ := l.of.dictAt
  exact wpAny_pyIter_dict l.lo hm (hq _ _ _ ep (F.push _) ⟨⟨_, Heap.get?_push_size _ rfl, rfl, rfl⟩, hm.push _⟩ (Nat.ne_of_lt hm.lt_size) fun b o e => Heap.get?_push_of_some _ e)
theorem st_dict {I : Addr} {ep : Nat} : ∀ (i : Nat) (h : Heap), h.IsKeyIter I a i kvs.length ep ∧ h.DictAt (kS w) a kvs ep → ∃ o, h.get? I = some o := fun _ _ st => let ⟨o, ho, _⟩ := st.1; ⟨o, ho⟩
theorem r_newD {Q : Value → Shared → Prop} (W : Wd w mg mb mean h₀) (F : Fm h₀ L ns vs news h) (hq : ∀ a o h', Fm h₀ L ns vs ((a, o) :: news) h' → o.IsDictOf (kS w) [] → (a == sysModules) = false → Q (.ref a) ⟨h', g, d, tk, os⟩) :
    wpAny (Mo w) A (eval (.Dict [] [] pos) env) Q E ⟨h, g, d, tk, os⟩ := by
  refine wpAny_Dict_empty (hq _ _ _ (F.push _) ?_ (F.lo W))
  (wtm_at "pc")
  obtain ⟨o, ho, hd⟩ := Heap.dictOf_iff.mp (Heap.DictOf.new (knd := kS w) h)
  (wtm_at "pu")
  rw [Heap.get?_push_size _ rfl] at ho
  exact (Option.some.inj ho) ▸ hd
theorem r_setD {Q : Unit → Shared → Prop} (F : Fm h₀ L ns vs ((a, o) :: news) h) (hd : o.IsDictOf (kS w) kvs) (hn : kvs.length ≤ 1000) (hk : k ∉ kvs.map (·.1))
    (hq : ∀ h' o', Fm h₀ L ns vs ((a, o') :: news) h' → o'.IsDictOf (kS w) (kvs ++ [(k, v)]) → Q () ⟨h', g, d, tk + 1, os⟩) : wpAny (Mo w) A (setItem (.ref a) (.str k t) v) Q E ⟨h, g, d, tk, os⟩ := by
  refine wpAny_setItem_pairs (knd := kS w) (k := k) (strKind_is _ _ _ _) (Heap.dictOf_iff.mpr ⟨o, F.get (.head _), hd⟩) (fun h' hm hs => ?_) (by rw [sizeLine_eq]; lia)
  rw [stored_new hk] at hm
  (wtm_at "pc")
  obtain ⟨o', ho', hd'⟩ := Heap.dictOf_iff.mp hm
  (wtm_at "pu")
  exact hq h' o' (F.mutH hs.extBut ho') hd'
theorem r_copyD {Q : Value → Shared → Prop} (W : Wd w mg mb mean h₀) (F : Fm h₀ L ns vs news h) (l : Dk w h a kvs) (hn : kvs.length ≤ 1000) (hq : ∀ c o h', Fm h₀ L ns vs ((c, o) :: news) h' → o.IsDictOf (kS w) kvs → (c == sysModules) = false → Q (.ref c) ⟨h', g, d, tk, os⟩) :
    wpAny (Mo w) A (call (.type "dict") [.ref a]) Q E ⟨h, g, d, tk, os⟩ := by
  refine kt_call_dict l.lo l.of (by rw [sizeLine_eq]; lia) fun h' hm hs => ?_
  (wtm_at "pc")
  obtain ⟨o', ho', hd'⟩ := Heap.dictOf_iff.mp hm
  (wtm_at "pu")
  exact hq _ o' h' ((F.push { cls := .type "dict", data := .dict #[] }).mutH hs.extBut ho') hd' (F.lo W)
inductive Bys : List (Str × Value) → List (Str × List UInt8) → Prop
  | nil : Bys [] []
  | cons {k : Str} {l : List UInt8} {t : Tok} {kvs : List (Str × Value)} {ps : List (Str × List UInt8)} : Bys kvs ps → Bys ((k, .bytes l.toArray t) :: kvs) ((k, l) :: ps)
theorem Bys.keys {kvs : List (Str × Value)} {ps : List (Str × List UInt8)} (b : Bys kvs ps) : kvs.map (·.1) = ps.map (·.1) := by
  induction b with
  | nil => rfl
  | cons _ ih => simp [ih]
theorem Bys.length {kvs : List (Str × Value)} {ps : List (Str × List UInt8)} (b : Bys kvs ps) : kvs.length = ps.length := by
  have := congrArg List.length b.keys; simpa using this
theorem Bys.valueAt {kvs : List (Str × Value)} {ps : List (Str × List UInt8)} (b : Bys kvs ps) {k : Str} {l : List UInt8} (nd : (ps.map (·.1)).Nodup) (h : (k, l) ∈ ps) : ∃ t, valueAt kvs k = some (.bytes l.toArray t) := by
  induction b with
  | nil => cases h
  | @cons k' l' t kvs ps b ih =>
    rw [List.map_cons, List.nodup_cons] at nd
    unfold PySem.valueAt
    rw [List.find?_cons]
    by_cases q : k' = k
    · subst q
      rcases List.mem_cons.mp h with e | e
      · cases e; exact ⟨t, by simp⟩
      · exact absurd (List.mem_map.mpr ⟨_, e, rfl⟩) nd.1
    · have h2 : (k, l) ∈ ps := by
        rcases List.mem_cons.mp h with e | e
        · cases e; exact absurd rfl q
        · exact e
      simpa [PySem.valueAt, q] using ih nd.2 h2
theorem Bys.none_ {kvs : List (Str × Value)} {ps : List (Str × List UInt8)} (b : Bys kvs ps) {k : Str} (h : k ∉ ps.map (·.1)) : PySem.valueAt kvs k = Option.none := by
  unfold PySem.valueAt
  rw [Option.map_eq_none_iff, List.find?_eq_none]
  intro p hp q
  have q' : p.1 = k := by simpa using q
  exact h (b.keys ▸ q' ▸ List.mem_map.mpr ⟨p, hp, rfl⟩)
theorem Bys.snoc {kvs : List (Str × Value)} {ps : List (Str × List UInt8)} {k : Str} {l : List UInt8} {t : Tok} (b : Bys kvs ps) : Bys (kvs ++ [(k, .bytes l.toArray t)]) (ps ++ [(k, l)]) := by
  induction b with
  | nil => exact .cons .nil
  | cons _ ih => exact .cons ih
theorem eqAt_bytes {s : Shared} (a b : List UInt8) (t u : Tok) : SeqAt.EqAt A s (.bytes a.toArray t) (.bytes b.toArray u) (decide (a = b)) := fun prog w E Q h => eqBool_bytes (by simpa using h)
theorem Bys.hits {s : Shared} {ps : List (Str × List UInt8)} : ∀ {qs : List (Str × List UInt8)} {kvs kvs' : List (Str × Value)}, Bys kvs ps → (ps.map (·.1)).Nodup → Bys kvs' qs → (∀ p ∈ qs, p ∈ ps) → KeqHits A s kvs kvs' true := by
  intro qs kvs kvs' b nd b' hs
  induction b' with
  | nil => exact KeqHits.nil
  | cons b' ih =>
    rename_i k l t0 _ _
    obtain ⟨t', e⟩ := b.valueAt nd (hs _ (.head _))
    have := KeqHits.hit (A := A) (s := s) (k := k) e (eqAt_bytes l l t0 t') (ih fun p hp => hs p (.tail _ hp))
    simpa using this
theorem r_neD {ps : List (Str × List UInt8)} {Q : Value → Shared → Prop} (l : Dk w h a kvs) (l' : Dk w h b kvs') (b1 : Bys kvs ps) (b2 : Bys kvs' ps) (hu : A.units < cLine) (hq : Q (.bool false) ⟨h, g, d, tk, os⟩) :
    wpAny (Mo w) A (compareOp .NotEq (.ref a) (.ref b)) Q E ⟨h, g, d, tk, os⟩ := by
  refine keq_ne (knd := kS w) (r := true) l.lo l'.lo l.of l'.of hu (fun _ => b2.hits (by rw [← b2.keys]; exact l'.nodup) b1 fun p hp => hp) ?_
  rw [b1.length, b2.length]
  simpa using hq
end
section
variable {w : World} {A : Around} {E : Value → Shared → Prop} {h₀ hb h : Heap} {g : Array GenState} {d : Drawn} {tk : Nat} {os : OsState} {L a : Addr} {mg mb : Str → Option Value} {mean : ExcName → Option Value}
  {ns cns : List Str} {vs : List (Option Value)} {cl : List (Str × Addr)} {gs bs : List (Str × Value)} {news : List (Addr × Obj)} {cs : Scope} {x : Str} {pos px : Pos} {v : Value} {env : Env} {s : Shared}
theorem comp_finT {I : Addr} {fp : List Addr} {n : Nat} {P : Nat → Value → Prop} {St : Nat → Heap → Prop} {Q : Value → Shared → Prop} {elt iter c : Expr} {scope : Scope} {oI : Obj}
    {csC : Scope} {nsC cnsC : List Str} {gsC bsC : List (Str × Value)} {clo : List (Str × Addr)} (ix : Nat)
    (en : En env L cs cl) (hcs : csC = relabel scope env) (Y : Fi csC nsC cnsC gsC bsC) (hcell : ∀ y ∈ scope.names, y.2 ≠ .cell) (hkind : scope.kind = .function)
    (Wk : Walks pw w A I fp [I] n P St) (hst : ∀ i h, St i h → ∃ o, h.get? I = some o) (J : Nat → List Value → List (Addr × Obj) → Prop)
    (hfp : ∀ b ∈ fp, b = I ∨ ((∃ o, h.get? b = some o) ∧ b ∉ I :: news.map (·.1)) ∨ ∃ o, ∀ i ys news, J i ys news → (b, o) ∈ news) (hix : nsC[ix]? = some x) (hn : n ≤ sizeLine)
    (W : Wd w mg mb mean h₀) (F : Fm h₀ L ns vs ((I, oI) :: news) h) (st : St 0 h) (j0 : J 0 [] news)
    (step : ∀ hb C D i v ys news₁ h₁ tk₁ oI ep, Fi csC nsC cnsC gsC bsC → Wd w mg mb mean hb → (∀ b o, b ∉ I :: news.map (·.1) → h.get? b = some o → hb.get? b = some o) → i < n → P i v → J i ys news₁ →
      Fm hb C nsC ((List.replicate nsC.length none).set ix (some v)) ((I, oI) :: (D, lsO ys ep) :: news₁) h₁ → En (compEnvC scope clo C env) C csC clo →
      wpAny (Mo w) A (isTrue c (compEnvC scope clo C env) (eval c (compEnvC scope clo C env)))
        (fun ok s₃ => if ok = true then wpAny (Mo w) A (eval elt (compEnvC scope clo C env)) (fun y s' => ∃ vs₃ news₃ h₃ tk₃, s' = ⟨h₃, g, d, tk₃, os⟩ ∧ Fm hb C nsC vs₃ ((I, oI) :: (D, lsO ys ep) :: news₃) h₃ ∧ J (i + 1) (ys ++ [y]) news₃) (fun _ _ => False) s₃
          else ∃ vs₃ news₃ h₃ tk₃, s₃ = ⟨h₃, g, d, tk₃, os⟩ ∧ Fm hb C nsC vs₃ ((I, oI) :: (D, lsO ys ep) :: news₃) h₃ ∧ J (i + 1) ys news₃) (fun _ _ => False) ⟨h₁, g, d, tk₁, os⟩)
    (done : ∀ D ys news₁ h₁ tk₁ ep, J n ys news₁ → Fm h₀ L ns vs ((D, lsO ys ep) :: news₁) h₁ → Q (.ref D) ⟨h₁, g, d, tk₁, os⟩) :
    compTail w A E elt px x iter [c] scope pos clo env none Q (.ref I) ⟨h, g, d, tk, os⟩ :=
  comp_fin ix en hcs Y hcell hkind Wk hst J hfp hix hn W F st j0 (fun hb C D i v ys news₁ h₁ tk₁ oI ep Wb keep hi pv j F₁ => r_test1 (step hb C D i v ys news₁ h₁ tk₁ oI ep Y Wb keep hi pv j F₁ (hcs ▸ en.comp))) done
end
theorem At.mem {h₀ h : Heap} {L x C dx : Addr} {ns : List Str} {vs : List (Option Value)} {news : List (Addr × Obj)} {fs : List (Str × Value)} {es : List DictEntry} {n : Nat} (F : Fm h₀ L ns vs news h) (r : Rep fs es) (m1 : (x, instObj C dx) ∈ news) (m2 : (dx, dictOf es n) ∈ news) : At h x C fs := ⟨dx, es, n, F.get m1, F.get m2, r⟩
noncomputable def recD (l : List UInt8) (p : Nat) : RecD := ⟨tagS ((l.drop p).take 4), numL ((l.drop (p + 4)).take 4), numL ((l.drop (p + 8)).take 4), numL ((l.drop (p + 12)).take 4), p⟩
noncomputable def recsD (l : List UInt8) (n : Nat) : List RecD := (List.range n).map fun i => recD l (12 + 16 * i)
structure RecsN (news : List (Addr × Obj)) (ys : List Value) (rs : List RecD) : Prop where
  len : ys.length = rs.length
  at_ : ∀ (i : Nat) (v : Value) (r : RecD), ys[i]? = some v → rs[i]? = some r → ∃ x dx es n t1 t2 t3 t4 t5, v = .ref x ∧ (x, instObj 308 dx) ∈ news ∧ (dx, dictOf es n) ∈ news ∧ Rep [("tag", .str r.tag t1), ("total", .int r.total t2), ("begin", .int r.begin t3), ("length", .int r.length t4), ("where", .int r.wh t5)] es
theorem RecsN.recs {h : Heap} {news : List (Addr × Obj)} {ys : List Value} {rs : List RecD} (a : RecsN news ys rs) (N : ∀ p ∈ news, h.get? p.1 = some p.2) : Recs h ys rs :=
  ⟨a.len, fun i v r e1 e2 => by
    (wtm_at "pc")
    obtain ⟨x, dx, es, n, t1, t2, t3, t4, t5, e, m1, m2, rep⟩ := a.at_ i v r e1 e2
    exact (show IsRec h v r from ⟨x, t1, t2, t3, t4, t5, e, dx, es, n, N _ m1, N _ m2, rep⟩)⟩
theorem RecsN.mono {news news' : List (Addr × Obj)} {ys : List Value} {rs : List RecD} (a : RecsN news ys rs) (hs : ∀ p ∈ news, p ∈ news') : RecsN news' ys rs :=
  ⟨a.len, fun i v r e1 e2 => by
    (wtm_at "pc")
    obtain ⟨x, dx, es, n, t1, t2, t3, t4, t5, e, m1, m2, rep⟩ := a.at_ i v r e1 e2
    (wtm_at "pu")
    exact ⟨x, dx, es, n, t1, t2, t3, t4, t5, e, hs _ m1, hs _ m2, rep⟩⟩
theorem RecsN.snoc {news news' : List (Addr × Obj)} {ys : List Value} {rs : List RecD} {x dx : Addr} {es : List DictEntry} {n : Nat} {r : RecD} {t1 t2 t3 t4 t5 : Tok} (a : RecsN news ys rs) (hs : ∀ p ∈ news, p ∈ news') (m1 : (x, instObj 308 dx) ∈ news') (m2 : (dx, dictOf es n) ∈ news')
    (rep : Rep [("tag", .str r.tag t1), ("total", .int r.total t2), ("begin", .int r.begin t3), ("length", .int r.length t4), ("where", .int r.wh t5)] es) : RecsN news' (ys ++ [.ref x]) (rs ++ [r]) := by
  refine ⟨by simp [a.len], fun j z q e1 e2 => ?_⟩
  by_cases hj : j < ys.length
  · rw [List.getElem?_append_left hj] at e1
    rw [List.getElem?_append_left (by rw [← a.len]; exact hj)] at e2
    (wtm_at "pc")
    obtain ⟨x, dx, es, n, t1, t2, t3, t4, t5, e, m1, m2, rep⟩ := a.at_ j z q e1 e2
    (wtm_at "pu")
    exact ⟨x, dx, es, n, t1, t2, t3, t4, t5, e, hs _ m1, hs _ m2, rep⟩
  · have hj : j = ys.length := by
      have := (List.getElem?_eq_some_iff.mp e1).1
      simp at this; lia
    subst hj
    rw [List.getElem?_append_right (Nat.le_refl _), Nat.sub_self] at e1
    rw [a.len, List.getElem?_append_right (Nat.le_refl _), Nat.sub_self] at e2
    cases e1; cases e2
    exact ⟨_, _, _, _, _, _, _, _, _, rfl, m1, m2, rep⟩
section
variable {w : World} {A : Around} {E : Value → Shared → Prop} {hB : Heap} {g : Array GenState} {d : Drawn} {tk : Nat} {os : OsState} {mg mb : Str → Option Value} {mean : ExcName → Option Value}
  {t₀ t₁ t₂ : Tok} {l : List UInt8} {n : Nat}
structure Good (l : List UInt8) (n : Nat) : Prop where
  max : l.length ≤ 1000
  dir : 12 + 16 * n ≤ l.length
  few : n ≤ 6
  ver : numL (l.take 4) = 65536
  cnt : numL ((l.drop 4).take 2) = n
  asc : ∀ (i : Nat) (a b : RecD), (recsD l n)[i]? = some a → (recsD l n)[i + 1]? = some b → a.tag.cps.toList < b.tag.cps.toList
  ends : ∀ r ∈ recsD l n, r.begin + r.length ≤ l.length
  apart : ∀ (i : Nat) (a b : RecD), (full (recsD l n))[i]? = some a → (full (recsD l n))[i + 1]? = some b → a.begin + a.length ≤ b.begin
  first : ∀ r ∈ full (recsD l n), 12 + 16 * (n : Int) ≤ r.begin
theorem versions_at (W : Wd w mg mb mean hB) : Tp hB 284 [.int 65536 526, .int 1330926671 528, .int 1953658213 530] := Tp.of (W.k _ _ (by kernel_rfl))
theorem r_notVer {h : Heap} {t : Tok} {Q : Value → Shared → Prop} (T : Tp h 284 [.int 65536 526, .int 1330926671 528, .int 1953658213 530]) (hq : Q (.bool false) ⟨h, g, d, tk, os⟩) :
    wpAny (Mo w) A (compareOp .NotIn (.int 65536 t) (.ref 284)) Q E ⟨h, g, d, tk, os⟩ :=
  SeqAt.notIn_tupleAt (isInt 65536) T (fun y hy => by
    have hy' : y ∈ [Value.int 65536 526, .int 1330926671 528, .int 1953658213 530] := by simpa using hy
    rcases List.mem_cons.mp hy' with rfl | hy'
    · exact SeqAt.EqAt.int_int _ _ _ _
    · rcases List.mem_cons.mp hy' with rfl | hy'
      · exact SeqAt.EqAt.int_int _ _ _ _
      · obtain rfl := List.mem_singleton.mp hy'
        exact SeqAt.EqAt.int_int _ _ _ _) (by rw [show (!([Value.int 65536 526, .int 1330926671 528, .int 1953658213 530].toArray.any (isInt 65536))) = false by kernel_rfl]; exact hq)
theorem read_records_c {Q : Value → Shared → Prop} (W : Wd w mg mb mean hB) (R : Rm 8 A) (hh : A.handled = none) (G : Good l n)
    (hq : ∀ h' a D xs t tk' cells ep, Ext hB h' → (∀ p ∈ cells, h'.get? p.1 = some p.2 ∧ hB.get? p.1 = none) → (cells.map (·.1)).Nodup → (a, tpO [.int 65536 t, .ref D]) ∈ cells → (D, lsO xs ep) ∈ cells → RecsN cells xs (recsD l n) → Q (.ref a) ⟨h', g, d, tk', os⟩) : wpAny (Mo w) A (call (.ref 343) [.bytes l.toArray t₀, .int 0 t₁]) Q E ⟨hB, g, d, tk, os⟩ := by
  refine callPC (df_read_records w) (by kernel_rfl) [some (.int 0 t₁), none, none, none, none] W R.room rfl (fun i y v hi hv => ?_) fun L h₁ tk₁ cells Yc F => ?_
  · match i, hi, hv with
    | 0, hi, hv => cases hi; cases hv; kernel_rfl
    | 1, _, hv => cases hv
    | 2, _, hv => cases hv
    | 3, _, hv => cases hv
    | 4, _, hv => cases hv
    | n + 5, hi, _ => simp at hi
  have Y := (df_read_records w).fi
  (wtm_at "pc")
  obtain ⟨oC, rfl, hco⟩ := CellsAre.one (n := "data") (c := L + 1) Yc
  (wtm_at "pu")
  replace hco : oC.data = .cell (some (.bytes l.toArray t₀)) := hco.trans (by kernel_rfl)
  have hcl : (cellsFrom (L + 1) (fnS (st 29)).names []).lookup ("data" : Str) = some (L + 1) := by kernel_rfl
  have hmax := G.max
  have hdir := G.dir
  refine wpAny_execs_cons ?_
  repeat (wtm_at "ev")
  refine r_ifF (by simp only [decide_eq_true_eq]; lia) ?_
  repeat (wtm_at "ev")
  refine u32_at_c (W.keeps F.keep) R.deep.le (by exact hh) (by lia) (by decide) (by lia) fun h2 t2 tk2 k => ?_
  replace F := F.ext k
  repeat (wtm_at "ev")
  rw [show numL (List.take 4 (List.drop (Int.toNat 0) l)) = 65536 from G.ver] at F ⊢
  refine r_notVer ((versions_at W).ext F.keep) ?_
  repeat (wtm_at "ev")
  refine OctetsIn_new (W.keeps F.keep) R.deep.le fun h' x dx es n' tk' k hn ne rep => ?_
  replace F := F.fresh k hn (by simp [ne])
  dsimp only [List.cons_append, List.nil_append] at F
  repeat (wtm_at "ev")
  refine In_u16_c W F R.deep.le (by exact hh) rep (by lia) (by lia) (by lia) fun h es n' u t1 tk F rep => ?_
  rw [show numL (List.take 2 (List.drop (0 + 4 : Int).toNat l)) = n from G.cnt]
  repeat (wtm_at "ev")
  refine directory_size_c' (W.keeps F.keep) R.deep.le fun h2 t3 tk2 k => ?_
  replace F := F.ext k
  repeat (wtm_at "ev")
  refine r_ifF (by simp only [decide_eq_true_eq]; lia) ?_
  repeat (wtm_at "ev")
  refine r_acomp _ ?_ (by rfl) (by rfl) (by rfl) (by decide +kernel)
  repeat (wtm_at "ev")
  refine r_range3 F (by decide) (by decide) fun r h hR F _ => ?_
  replace F := F.drop (news' := [(L + 1, oC)]) (.cons _ (.cons _ (.refl _)))
  refine r_iterR n F hR (range_small (by lia) (by lia) (by decide)) (by rw [rsz_pos (by decide)]; split <;> lia) fun I h3 oI F3 st3 _ => ?_
  have hclF : List.lookup ("data" : Str) [(("data" : Str), L + 1)] = some (L + 1) := by kernel_rfl
  refine comp_finA (nsC := ["where"]) (cnsC := ["data"]) (gsC := [("read_record", .ref 326)]) (bsC := []) 0 4 En.fnC Y rfl rfl (Fi.of (by kernel_rfl)) (by decide +kernel) rfl (Walks.range (by exact hh) I _ _ _) st_range
    (fun i ys news => (L + 1, oC) ∈ news ∧ RecsN news ys (recsD l i)) (fun b hb => .inl (List.mem_singleton.mp hb)) rfl (by rw [sizeLine_eq]; have := G.few; lia) W F3 st3 ⟨.head _, rfl, fun i v r e => by simp at e⟩ ?_ ?_
  · intro hb C D i v ys news₁ h tk oI ep Y W keep hi hJ0 hJ1 F en
    (wtm_at "pc")
    obtain ⟨u, rfl⟩ := hJ0
    obtain ⟨mC, rows⟩ := hJ1
    (wtm_at "pu")
    (wtm_at "fs")
    refine wpAny_pure ?_
    (try unfold Qcut)
    rw [if_pos rfl]
    repeat (wtm_at "ev")
    have ew : (0 : Int) + 12 + (i : Int) * 16 = ((12 + 16 * i : Nat) : Int) := by lia
    rw [ew] at F ⊢
    refine read_record_c (W.keeps F.keep) R.deep.le (by exact hh) (by lia) (by lia) fun h' x dx es n' t1 t2 t3 t4 tk' k hn ne rep => ?_
    replace F := F.fresh k hn (by simp [ne])
    dsimp only [List.cons_append, List.nil_append] at F
    refine ⟨_, _, _, _, rfl, F.perm (news' := (I, oI) :: (D, lsO ys ep) :: (dx, dictOf es n') :: (x, instObj 308 dx) :: news₁) ?_, .tail _ (.tail _ mC), ?_⟩
    · exact (List.perm_append_comm_assoc [(dx, dictOf es n'), (x, instObj 308 dx)] [(I, oI), (D, lsO ys ep)] news₁)
    · have e : recsD l (i + 1) = recsD l i ++ [recD l (12 + 16 * i)] := by unfold recsD; rw [List.range_succ, List.map_append]; rfl
      rw [e]
      exact rows.snoc (fun p hp => .tail _ (.tail _ hp)) (.tail _ (.head _)) (.head _) rep
  · intro D ys news₁ h tk ep hJ0 F
    (wtm_at "pc")
    obtain ⟨mC, rows⟩ := hJ0
    (wtm_at "pu")
    (wtm_at "fs")
    have hrl : (recsD l n).length = n := by unfold recsD; simp
    have hrec : Recs h ys (recsD l n) := rows.recs fun p hp => F.get (.tail _ hp)
    have few := G.few
    have hls : Ls h D ys := Ls.of (F.get (.head _))
    repeat (wtm_at "ev")
    refine need_in_order_c (W.keeps F.keep) R.deep.le (by exact hh) hls hrec (by lia) G.asc G.ends fun h2 tk2 k => ?_
    replace F := F.ext k
    replace hls := hls.ext k
    replace hrec := hrec.ext k
    repeat (wtm_at "ev")
    refine need_apart_c (W.keeps F.keep) R.deep.le (by exact hh) hls hrec ?_ (by lia) G.apart (by lia) ?_ fun h2 tk2 k => ?_
    · refine Nat.le_trans (List.length_filter_le _ _) (by lia)
    · intro r hr
      have := G.first r hr
      lia
    replace F := F.ext k
    replace hls := hls.ext k
    replace hrec := hrec.ext k
    repeat (wtm_at "ev")
    exact hq _ _ _ _ _ _ _ _ F.keep (fun p hp => ⟨(FT.led p hp).1, (FT.led p hp).2.2⟩) FT.nd (.head _) (.tail _ (.head _)) (rows.mono fun p hp => .tail _ (.tail _ hp))
end
noncomputable def tabOf (l : List UInt8) (r : RecD) : Str × List UInt8 := (r.tag, (l.drop r.begin.toNat).take r.length.toNat)
noncomputable def tabsOf (l : List UInt8) (n : Nat) : List (Str × List UInt8) := (recsD l n).map (tabOf l)
theorem recD_nonneg (l : List UInt8) (p : Nat) : 0 ≤ (recD l p).begin ∧ 0 ≤ (recD l p).length ∧ 0 ≤ (recD l p).total := ⟨(numL_bound _).1, (numL_bound _).1, (numL_bound _).1⟩
theorem recsD_nonneg {l : List UInt8} {n : Nat} {r : RecD} (h : r ∈ recsD l n) : 0 ≤ r.begin ∧ 0 ≤ r.length ∧ 0 ≤ r.total := by
  (wtm_at "pc")
  obtain ⟨i, _, rfl⟩ := List.mem_map.mp h
  (wtm_at "pu")
  exact recD_nonneg _ _
theorem recsD_length (l : List UInt8) (n : Nat) : (recsD l n).length = n := by unfold recsD; simp
theorem lt_trans_cps {a b c : Str} (h : a.cps.toList < b.cps.toList) (h' : b.cps.toList < c.cps.toList) : a.cps.toList < c.cps.toList := List.lt_trans h h'
theorem asc_cps {rs : List RecD} (asc : ∀ (i : Nat) (a b : RecD), rs[i]? = some a → rs[i + 1]? = some b → a.tag.cps.toList < b.tag.cps.toList) : ∀ (k i : Nat) (a b : RecD), rs[i]? = some a → rs[i + 1 + k]? = some b → a.tag.cps.toList < b.tag.cps.toList
  | 0, i, a, b, e1, e2 => asc i a b e1 e2
  | k + 1, i, a, b, e1, e2 => by
    have hlt : i + 1 + k < rs.length := by have := (List.getElem?_eq_some_iff.mp e2).1; lia
    exact lt_trans_cps (asc_cps asc k i a _ e1 (List.getElem?_eq_getElem hlt)) (asc (i + 1 + k) _ b (List.getElem?_eq_getElem hlt) e2)
theorem asc_nodup {rs : List RecD} (asc : ∀ (i : Nat) (a b : RecD), rs[i]? = some a → rs[i + 1]? = some b → a.tag.cps.toList < b.tag.cps.toList) : (rs.map (·.tag)).Nodup := by
  rw [List.Nodup, List.pairwise_iff_getElem]
  intro i j hi hj hij
  rw [List.getElem_map, List.getElem_map]
  intro q
  have := asc_cps asc (j - i - 1) i _ _ (List.getElem?_eq_getElem (by simpa using hi)) (List.getElem?_eq_getElem (by have : j < rs.length := by simpa using hj
                                                                                                                     rw [gap hij]; exact this))
  simp only [gap hij] at this
  rw [q] at this
  exact List.lt_irrefl _ this
section
variable {w : World} {A : Around} {E : Value → Shared → Prop} {hB : Heap} {g : Array GenState} {d : Drawn} {tk : Nat} {os : OsState} {mg mb : Str → Option Value} {mean : ExcName → Option Value}
  {t₀ t₁ t₂ : Tok} {l : List UInt8} {n : Nat} {D : Addr} {xs : List Value}
theorem tables_of_c {Q : Value → Shared → Prop} (W : Wd w mg mb mean hB) (R : Rm 4 A) (hh : A.handled = none) (G : Good l n) (hl : Ls hB D xs) (hr : Recs hB xs (recsD l n))
    (hq : ∀ h' t od kvs tk', Ext hB h' → h'.get? t = some od → hB.get? t = none → od.IsDictOf (kS w) kvs → (t == sysModules) = false → Bys kvs (tabsOf l n) → Q (.ref t) ⟨h', g, d, tk', os⟩) : wpAny (Mo w) A (call (.ref 348) [.bytes l.toArray t₀, .ref D]) Q E ⟨hB, g, d, tk, os⟩ := by
  refine callPC (df_tables_of w) (by kernel_rfl) [some (.ref D)] W R.room rfl (fun i y v hi hv => ?_) fun L h₁ tk₁ cells Yc F => ?_
  · match i, hi, hv with
    | 0, hi, hv => cases hi; cases hv; kernel_rfl
    | n + 1, hi, _ => simp at hi
  have Y := (df_tables_of w).fi
  (wtm_at "pc")
  obtain ⟨oC, rfl, hco⟩ := CellsAre.one (n := "data") (c := L + 1) Yc
  (wtm_at "pu")
  replace hco : oC.data = .cell (some (.bytes l.toArray t₀)) := hco.trans (by kernel_rfl)
  have hcl : (cellsFrom (L + 1) (fnS (st 30)).names []).lookup ("data" : Str) = some (L + 1) := by kernel_rfl
  have hmax := G.max
  have hdir := G.dir
  have hlen := hr.len
  have hrl := recsD_length l n
  have few := G.few
  refine wpAny_execs_cons ?_
  repeat (wtm_at "ev")
  refine r_iterL F (hl.ext F.keep) fun I h3 oI F3 st3 neI k3 => ?_
  have hclF : List.lookup ("data" : Str) [(("data" : Str), L + 1)] = some (L + 1) := by kernel_rfl
  have hDn : D ≠ L + 1 := fun q => by
    have := (F.led _ (.head _)).2.2
    (wtm_at "pc")
    obtain ⟨o, e, _⟩ := hl
    (wtm_at "pu")
    rw [q] at e; rw [e] at this; cases this
  refine comp_fin0 (nsC := ["one"]) (cnsC := ["data"]) (gsC := []) (bsC := []) 0 En.fnC rfl (Fi.of (by kernel_rfl)) (by decide +kernel) rfl (Walks.list (by exact hh) I D (Ne.symm neI) xs.toArray) st_list
    (fun i ys news => (L + 1, oC) ∈ news ∧ ∃ kvs, Prs news ys kvs ∧ Bys kvs (((recsD l n).take i).map (tabOf l))) (fun b hb => ?_) rfl (by rw [sizeLine_eq]; simp; lia) W F3 st3 ⟨.head _, [], ⟨rfl, fun i v r e => by simp at e⟩, by rw [List.take_zero]; exact .nil⟩ ?_ ?_
  · rcases List.mem_cons.mp hb with rfl | q
    · exact .inl rfl
    · obtain rfl := List.mem_singleton.mp q
      (wtm_at "pc")
      obtain ⟨o, e, _⟩ := st3.2
      (wtm_at "pu")
      exact .inr (.inl ⟨⟨o, e⟩, by simp [Ne.symm neI, hDn]⟩)
  · intro hb C D' i v ys news₁ h tk oI ep Y W keep hi pv hJ0 F en
    (wtm_at "pc")
    obtain ⟨mC, kvs, P, B⟩ := hJ0
    (wtm_at "pu")
    have kx : Ext hB hb := fun b o e => keep b o (by
      intro q
      rcases List.mem_cons.mp q with q | q
      · have := (F3.led _ (.head _)).2.2
        rw [q] at e; rw [this] at e; cases e
      · have q' : b = L + 1 := by simpa using q
        have := (F3.led _ (.tail _ (.head _))).2.2
        rw [q'] at e; rw [this] at e; cases e) (F3.keep _ _ e)
    (wtm_at "fs")
    have hv : xs[i]? = some v := by simpa using pv
    have hi' : i < (recsD l n).length := by rw [← hlen]; simpa using hi
    obtain ⟨rr, hrr⟩ : ∃ rr, (recsD l n)[i]? = some rr := ⟨_, List.getElem?_eq_getElem hi'⟩
    have mrr := List.mem_of_getElem? hrr
    (wtm_at "pc")
    obtain ⟨x, u1, u2, u3, u4, u5, rfl, I1⟩ := hr.at_ i v rr hv (hrr)
    (wtm_at "pu")
    replace I1 := I1.ext kx
    have hnn := recsD_nonneg mrr
    have hen := G.ends _ mrr
    repeat (wtm_at "ev")
    refine Record_end_c (W.keeps F.keep) R.deep.le (I1.ext F.keep) fun h2 t2 tk2 k => ?_
    replace F := F.ext k
    repeat (wtm_at "ev")
    have es : (rr.begin + rr.length).toNat - rr.begin.toNat = rr.length.toNat := toNat_cut hnn.1 hnn.2.1
    rw [es] at FT
    obtain ⟨tv, etv⟩ : ∃ tv : Tok, tv = t := ⟨_, rfl⟩
    rw [← etv] at FT
    refine ⟨_, _, _, _, rfl, FT.perm (.trans (.swap _ _ _) (.cons _ (.swap _ _ _))), .tail _ mC, kvs ++ [(rr.tag, .bytes ((l.drop rr.begin.toNat).take rr.length.toNat).toArray tv)], ⟨by simp [P.len], fun j z p e1 e2 => ?_⟩, ?_⟩
    · by_cases q : j < ys.length
      · rw [List.getElem?_append_left q] at e1
        rw [List.getElem?_append_left (by rw [← P.len]; exact q)] at e2
        (wtm_at "pc")
        obtain ⟨a', y1, e, m⟩ := P.at_ j z p e1 e2
        (wtm_at "pu")
        exact ⟨a', y1, e, .tail _ m⟩
      · have hj : j = ys.length := by
          have := (List.getElem?_eq_some_iff.mp e1).1
          simp at this; lia
        subst hj
        rw [List.getElem?_append_right (Nat.le_refl _), Nat.sub_self] at e1
        rw [P.len, List.getElem?_append_right (Nat.le_refl _), Nat.sub_self] at e2
        cases e1; cases e2
        exact ⟨_, _, rfl, .head _⟩
    · rw [List.take_add_one, hrr, Option.toList_some, List.map_append]
      exact B.snoc
  · intro D2 ys news₁ h tk ep hJ0 F
    (wtm_at "pc")
    obtain ⟨mC, kvs, P, B⟩ := hJ0
    (wtm_at "pu")
    rw [List.size_toArray, hlen, List.take_length] at B
    repeat (wtm_at "ev")
    refine r_dictPairs W F (by exact hh) (.head _) ⟨P.len, fun i v p e1 e2 => let ⟨a, t, e, m⟩ := P.at_ i v p e1 e2; ⟨a, t, e, .tail _ m⟩⟩ ?_ ?_ fun t od h' tk' F hd lo => ?_
    · rw [B.keys, List.map_map]
      exact asc_nodup G.asc
    · rw [B.length, List.length_map]; lia
    · exact hq _ _ _ _ _ F.keep (F.get (.head _)) (F.led _ (.head _)).2.2 hd lo B
theorem read_directory_c {Q : Value → Shared → Prop} (W : Wd w mg mb mean hB) (R : Rm 9 A) (hh : A.handled = none) (G : Good l n)
    (hq : ∀ h' a t od kvs t1 tk', Ext hB h' → Tp h' a [.int 65536 t1, .ref t] → h'.get? t = some od → hB.get? t = none → od.IsDictOf (kS w) kvs → (t == sysModules) = false → Bys kvs (tabsOf l n) → Q (.ref a) ⟨h', g, d, tk', os⟩) : wpAny (Mo w) A (call (.ref 355) [.bytes l.toArray t₀]) Q E ⟨hB, g, d, tk, os⟩ := by
  refine callP (df_read_directory w) W R.room rfl fun L h₁ tk₁ F => ?_
  have Y := (df_read_directory w).fi
  (wtm_at "f0")
  refine wpAny_execs_cons ?_
  refine Assign_Tuple ?_
  repeat (wtm_at "ev")
  refine read_records_c (W.keeps F.keep) R.deep (by exact hh) G fun h2 a D xs t tk2 cells ep k hn nd ma mD mR => ?_
  replace F := F.fresh k hn nd
  rw [List.append_nil] at F
  refine r_unpack2 (by exact hh) (Tp.of (F.get ma)) fun h3 k3 => ?_
  replace F := F.ext k3
  repeat (wtm_at "ev")
  refine tables_of_c (W.keeps F.keep) R.deep.le (by exact hh) G (Ls.of (F.get mD)) (mR.recs fun p hp => F.get hp) fun h4 t4 od kvs tk4 k4 e4 f4 hd4 lo4 b => ?_
  replace F := F.fresh (cells := [(t4, od)]) k4 (fun p hp => by obtain rfl := List.mem_singleton.mp hp; exact ⟨e4, f4⟩) (by simp)
  repeat (wtm_at "ev")
  exact hq _ _ _ _ _ _ _ F.keep (Tp.of Ia) (F.get (.head _)) (F.led _ (.head _)).2.2 hd4 lo4 b
end
structure Strs (ys : List Value) (ts : List Str) : Prop where
  len : ys.length = ts.length
  at_ : ∀ (i : Nat) (v : Value) (s : Str), ys[i]? = some v → ts[i]? = some s → ∃ t, v = .str s t
theorem Strs.nil : Strs [] [] := ⟨rfl, fun i v s e => by simp at e⟩
theorem Strs.snoc {ys : List Value} {ts : List Str} {s : Str} {t : Tok} (a : Strs ys ts) : Strs (ys ++ [.str s t]) (ts ++ [s]) := by
  refine ⟨by simp [a.len], fun j z q e1 e2 => ?_⟩
  by_cases hj : j < ys.length
  · rw [List.getElem?_append_left hj] at e1
    rw [List.getElem?_append_left (by rw [← a.len]; exact hj)] at e2
    exact a.at_ j z q e1 e2
  · have hj : j = ys.length := by
      have := (List.getElem?_eq_some_iff.mp e1).1
      simp at this; lia
    subst hj
    rw [List.getElem?_append_right (Nat.le_refl _), Nat.sub_self] at e1
    rw [a.len, List.getElem?_append_right (Nat.le_refl _), Nat.sub_self] at e2
    cases e1; cases e2
    exact ⟨_, rfl⟩
noncomputable def wrongB (l : List UInt8) (r : RecD) : Bool := csum (unadj r.tag (tabOf l r).2) != r.total
noncomputable def wrongs (l : List UInt8) (rs : List RecD) : List Str := (rs.filter (wrongB l)).map (·.tag)
section
variable {w : World} {A : Around} {E : Value → Shared → Prop} {hB : Heap} {g : Array GenState} {d : Drawn} {tk : Nat} {os : OsState} {mg mb : Str → Option Value} {mean : ExcName → Option Value}
  {t₀ t₁ t₂ : Tok} {l : List UInt8} {n : Nat} {D : Addr} {xs : List Value}
theorem check_sums_c {Q : Value → Shared → Prop} (W : Wd w mg mb mean hB) (R : Rm 9 A) (hh : A.handled = none) (G : Good l n)
    (hq : ∀ h' D ys ep tk', Ext hB h' → h'.get? D = some (lsO ys ep) → hB.get? D = none → Strs ys (wrongs l (recsD l n)) → Q (.ref D) ⟨h', g, d, tk', os⟩) : wpAny (Mo w) A (call (.ref 381) [.bytes l.toArray t₀]) Q E ⟨hB, g, d, tk, os⟩ := by
  refine callPC (df_check_sums w) (by kernel_rfl) [none, none] W R.room rfl (fun i y v hi hv => ?_) fun L h₁ tk₁ cells Yc F => ?_
  · match i, hi, hv with
    | 0, hi, hv => cases hv
    | 1, hi, hv => cases hv
    | n + 2, hi, _ => simp at hi
  have Y := (df_check_sums w).fi
  (wtm_at "pc")
  obtain ⟨oC, rfl, hco⟩ := CellsAre.one (n := "data") (c := L + 1) Yc
  (wtm_at "pu")
  replace hco : oC.data = .cell (some (.bytes l.toArray t₀)) := hco.trans (by kernel_rfl)
  have hcl : (cellsFrom (L + 1) (fnS (st 35)).names []).lookup ("data" : Str) = some (L + 1) := by kernel_rfl
  have hmax := G.max
  have hdir := G.dir
  have hrl := recsD_length l n
  have few := G.few
  refine wpAny_execs_cons ?_
  refine Assign_Tuple ?_
  repeat (wtm_at "ev")
  refine read_records_c (W.keeps F.keep) R.deep (by exact hh) G fun h2 a D xs t tk2 cells ep k hn nd ma mD mR => ?_
  have hDn : D ≠ L + 1 := fun q => by
    have := (hn _ mD).2
    rw [show (D, lsO xs ep).1 = L + 1 from q, F.get (.head _)] at this; cases this
  replace F := F.fresh k hn nd
  refine r_unpack2 (by exact hh) (Tp.of (F.get (List.mem_append_left _ ma))) fun h3 k3 => ?_
  replace F := F.ext k3
  have mC : (L + 1, oC) ∈ cells ++ [(L + 1, oC)] := List.mem_append_right _ (.head _)
  have mD' : (D, lsO xs ep) ∈ cells ++ [(L + 1, oC)] := List.mem_append_left _ mD
  have hrec : RecsN (cells ++ [(L + 1, oC)]) xs (recsD l n) := mR.mono fun p hp => List.mem_append_left _ hp
  have hlen := hrec.len
  generalize hNE : cells ++ [(L + 1, oC)] = NE at F mC mD' hrec
  repeat (wtm_at "ev")
  refine r_iterL F (Ls.of (F.get mD')) fun I h3 oI F3 st3 neI k3 => ?_
  have hclF : List.lookup ("data" : Str) [(("data" : Str), L + 1)] = some (L + 1) := by kernel_rfl
  refine comp_finT (nsC := ["one"]) (cnsC := ["data"]) (gsC := [("table_sum", .ref 376)]) (bsC := []) 0 En.fnC rfl (Fi.of (by kernel_rfl)) (by decide +kernel) rfl (Walks.list (by exact hh) I D (Ne.symm neI) xs.toArray) st_list
    (fun i ys news => news = NE ∧ Strs ys (wrongs l ((recsD l n).take i))) (fun b hb => ?_) rfl (by rw [sizeLine_eq]; simp; lia) W F3 st3 ⟨rfl, by rw [List.take_zero]; exact .nil⟩ ?_ ?_
  · rcases List.mem_cons.mp hb with rfl | q
    · exact .inl rfl
    · obtain rfl := List.mem_singleton.mp q
      exact .inr (.inr ⟨_, fun i ys news j => j.1 ▸ mD'⟩)
  · rintro hb C D' i v ys news₁ h tk oI ep' Y W keep hi pv ⟨rfl, P⟩ F en
    (wtm_at "fs")
    have hv : xs[i]? = some v := by simpa using pv
    have hi' : i < (recsD l n).length := by rw [← hlen]; simpa using hi
    obtain ⟨rr, hrr⟩ : ∃ rr, (recsD l n)[i]? = some rr := ⟨_, List.getElem?_eq_getElem hi'⟩
    have mrr := List.mem_of_getElem? hrr
    have hnn := recsD_nonneg mrr
    have hen := G.ends _ mrr
    have rat := (hrec.recs (h := h) fun p hp => F.get (.tail _ (.tail _ hp))).at_ i v rr hv (hrr)
    (wtm_at "pc")
    obtain ⟨x, dx, es, n', t1, t2, t3, t4, t5, rfl, m1, m2, rep⟩ := hrec.at_ i v rr hv (hrr)
    (wtm_at "pu")
    refine wpAny_isTrue_Compare1 ?_
    repeat (wtm_at "ev")
    refine Record_end_c (W.keeps F.keep) R.deep.le (At.mem F rep (.tail _ (.tail _ m1)) (.tail _ (.tail _ m2))) fun h2 t2 tk2 k => ?_
    replace F := F.ext k
    repeat (wtm_at "ev")
    have es' : (rr.begin + rr.length).toNat - rr.begin.toNat = rr.length.toNat := toNat_cut hnn.1 hnn.2.1
    rw [es']
    refine table_sum_c (W.keeps F.keep) R.deep.le (by exact hh) (Nat.le_trans (List.length_take_le' _ _) (by rw [List.length_drop]; exact Nat.le_trans (Nat.sub_le _ _) hmax)) fun h2 t2 tk2 k => ?_
    replace F := F.ext k
    repeat (wtm_at "ev")
    have ef : wrongs l ((recsD l n).take (i + 1)) = wrongs l ((recsD l n).take i) ++ if wrongB l rr = true then [rr.tag] else [] := by
      unfold wrongs
      rw [List.take_add_one, hrr, Option.toList_some, List.filter_append, List.map_append, List.filter_cons]
      split <;> rfl
    refine r_if (fun c => ?_) fun c => ?_
    · have c' : wrongB l rr = true := c
      repeat (wtm_at "ev")
      rw [if_pos c'] at ef
      refine ⟨_, _, _, _, rfl, F, rfl, ?_⟩
      rw [ef]
      exact P.snoc
    · have c' : ¬ wrongB l rr = true := c
      rw [if_neg c', List.append_nil] at ef
      refine ⟨_, _, _, _, rfl, F, rfl, ?_⟩
      rw [ef]
      exact P
  · rintro D2 ys news₁ h tk ep ⟨rfl, P⟩ F
    rw [List.size_toArray, hlen, List.take_length] at P
    repeat (wtm_at "ev")
    exact hq _ _ _ _ _ F.keep (F.get (.head _)) (F.led _ (.head _)).2.2 P
end
namespace X
theorem slot_wd_get : Slot "wrapper_descriptor" "__get__" "wrapper_descriptor.__get__" := .of (owner := "wrapper_descriptor") (n := "__get__") (by rw [typeLookup_type, builtinLookup_eq_fast]; kernel_rfl) (by decide +kernel) (by decide +kernel) (by decide +kernel)
  (by first | exact .inl (by decide +kernel) | exact .inr (by decide +kernel)) (by rw [isSubtype_type]; kernel_rfl)
theorem entry_wd_get : entryFor table "wrapper_descriptor.__get__" = some Builtin.«wrapper_descriptor.__get__» := entryFor_of_tree (by kernel_rfl)
theorem args_wd_get (a b c : Value) : argsOk "wrapper_descriptor.__get__" ⟨[a, b, c], []⟩ := by unfold argsOk; kernel_rfl
theorem type_init : typeOf (.builtin "Exception.__init__") = pure (.type "wrapper_descriptor") := by kernel_rfl
theorem along_init (P : Params) : alongIn (K P) "__init__" [.type "Exception", .type "BaseException", .type "object"] = some (some (.builtin "Exception.__init__")) := by kernel_rfl
theorem mro61 (P : Params) : clsIn (K P) 61 = some ⟨"TableFault", [.ref 48], [.ref 61, .ref 48, .type "Exception", .type "BaseException", .type "object"], 60, "TableFault", true, [], [], false, none, false⟩ := by kernel_rfl
theorem find_init (P : Params) : findIn (K P) (.ref 61) "__init__" = some (some (.ref 38)) := by kernel_rfl
theorem find_sa (P : Params) : findIn (K P) (.ref 61) "__setattr__" = some (some (.builtin "object.__setattr__")) := by kernel_rfl
theorem obj61 (P : Params) : (K P).lookup 61 = some (excClassObj "TableFault" "TableFault" 61 60 [.ref 48] [.ref 48, .type "Exception", .type "BaseException", .type "object"] true [] [] false none none (some (.ref 52)) none (some (.str "TableFault" 238)) (some (.str "TableFault" 246)) (some (.bool true)) "Exception.__new__") := by kernel_rfl
end X
noncomputable abbrev supO (x : Addr) : Obj := { cls := .type "super", dict := none, data := .fields #[.ref 48, .ref x, .ref 61], slots := #[] }
section
variable {w : World} {A : Around} {E : Value → Shared → Prop} {h₀ h : Heap} {g : Array GenState} {d : Drawn} {t tk : Nat} {os : OsState} {L x so : Addr} {ox : Obj} {mg mb : Str → Option Value} {mean : ExcName → Option Value} {ns : List Str} {vs : List (Option Value)} {news : List (Addr × Obj)}
theorem sup_ga {tk : Tok} {Q : Fin → Shared → Prop} (X0 : (K w.params).In h) (hso : h.get? so = some (supO x)) (hx : h.get? x = some ox) (hxc : ox.cls = .ref 61)
    (hq : Q (.done (.ret (.ref h.objs.size))) ⟨h.push { cls := .type "method-wrapper", data := .fields #[.builtin "Exception.__init__", .ref x] }, g, d, t, os⟩) :
    wpAny (Mo w) A (Builtin.«super.__getattribute__» ⟨[.ref so, .str "__init__" tk], []⟩) Q E ⟨h, g, d, t, os⟩ := by
  have hlk := X.slot_wd_get.lookup
  have hC : Looks (Mo w) h (mroOf (.ref 61)) [.ref 61, .ref 48, .type "Exception", .type "BaseException", .type "object"] := (looks_clsIn X0 (X.mro61 _)).andThen .now
  have hl : ([.ref 61, .ref 48, .type "Exception", .type "BaseException", .type "object"].dropWhile (· != Value.ref 48)).drop 1 = [.type "Exception", .type "BaseException", .type "object"] := by decide +kernel
  have hno : Looks (Mo w) h (opaqueClassAbove (.ref 61)) none := looks_opaque X0 (by kernel_rfl)
  have hT : (⟨h, g, d, t, os⟩ : Shared).TypeIs (.builtin "Exception.__init__") "wrapper_descriptor" := X.type_init
  have hdt : (supO x).data = .fields #[.ref 48, .ref x, .ref 61] := rfl
  have f0 : (#[.ref 48, .ref x, .ref 61] : Array Value)[0]? = some (.ref 48) := rfl
  have f1 : (#[.ref 48, .ref x, .ref 61] : Array Value)[1]? = some (.ref x) := rfl
  have f2 : (#[.ref 48, .ref x, .ref 61] : Array Value)[2]? = some (.ref 61) := rfl
  have hne : (Value.ref x == Value.ref 61) = false := by
    have : x ≠ 61 := fun q => by
      have e := X0 _ _ (X.obj61 w.params)
      rw [← q, hx] at e; cases e; cases hxc
    simp [this]
  have hn : (("__init__" : Str) == ("__class__" : Str)) = false := by decide +kernel
  have hnn : (Value.ref 61 == Value.none) = false := by decide
  have hnm : (Value.ref 61 == Value.type "module") = false := by decide
  unfold Builtin.«super.__getattribute__»
  (try dsimp only)
  refine wpAny_bind (wpAny_of_eq (a := some ("__init__" : Str)) rfl ?_)
  rw [if_neg (show ¬ (some ("__init__" : Str)).isNone = true from Bool.false_ne_true)]
  refine wpAny_bind (wpAny_of_eq (a := some ("__init__" : Str)) rfl ?_)
  (try dsimp only)
  refine wpAny_bind (wpAny_field hso hdt f0 (wpAny_bind (wpAny_field hso hdt f1 (wpAny_bind (wpAny_field hso hdt f2 ?_)))))
  rw [if_neg (show ¬ (Value.ref 61 == Value.none || ("__init__" : Str) == ("__class__" : Str)) = true by rw [hnn, hn]; exact Bool.false_ne_true)]
  refine wpAny_bind (ks_wpAny_notOpaque hno ?_)
  rw [if_neg (show ¬ (Value.ref 61 == Value.type "module") = true by rw [hnm]; exact Bool.false_ne_true)]
  refine wpAny_bind (Looks.at hC ?_)
  rw [hl]
  have hsub : Looks (Mo w) h (isInstance (.ref x) (.type "Exception")) true := by
    have t1 : Looks (Mo w) h (typeOf (.ref x)) (.ref 61) := hxc ▸ (Looks.ld (part := some headPart) hx).andThen .now
    exact t1.andThen (looks_mroIn X0 (by kernel_rfl))
  have hf := X.along_init w.params
  generalize K w.params = KK at X0 hf
  generalize Str.ofString "__init__" = nm at hf ⊢
  refine wpAny_bind (ks_forIn_along X0 (fun _ _ => rfl) rfl ?_ hf)
  (try dsimp only)
  refine wpAny_bind (wpAny_typeOf hT (wpAny_bind (wpAny_of_eq hlk ?_)))
  (try dsimp only)
  rw [hne, if_neg Bool.false_ne_true]
  refine wpAny_bind (wpAny_holding (wpAny_call_entry X.slot_wd_get hT X.entry_wd_get ?_ (X.args_wd_get _ _ _)))
  unfold Builtin.«wrapper_descriptor.__get__»
  refine wpAny_bind (wpAny_of_eq (a := (Value.builtin "Exception.__init__", some (Value.ref x), some (Value.ref 61))) (by kernel_rfl) ?_)
  (try dsimp only)
  show wpAny _ _ (_ >>= fun _ => (newFields "method-wrapper" [Value.builtin "Exception.__init__", Value.ref x] >>= fun v => ret v)) _ _ _
  refine wpAny_bind ?_
  show wpAny _ _ (_ >>= _) _ _ _
  refine wpAny_bind (wpAny_of_eq (a := (("__init__" : Str), Value.type "Exception")) (by kernel_rfl) ?_)
  (try dsimp only)
  refine wpAny_bind (hsub.at ?_)
  rw [if_neg (by decide)]
  refine wpAny_pure (wpAny_bind ?_)
  unfold newFields
  refine wpAny_newObj_type ?_ (by size_fits)
  refine wpAny_pure ⟨_, rfl, wpAny_bind (wpAny_pure (wpAny_pure ?_))⟩
  exact wpAny_pure hq
end
namespace X
theorem entry_init : entryFor table "Exception.__init__" = some Builtin.«BaseException.__init__» := PySem.F.excBase_Exception.initEntry
theorem plain_init : plainId "Exception.__init__" = true := PySem.F.excBase_Exception.init.plain
end X
noncomputable abbrev mwO (x : Addr) : Obj := { cls := .type "method-wrapper", data := .fields #[.builtin "Exception.__init__", .ref x] }
section
variable {w : World} {A : Around} {E : Value → Shared → Prop} {h₀ h : Heap} {g : Array GenState} {d : Drawn} {t tk : Nat} {os : OsState} {L x so b : Addr} {ox : Obj} {mg mb : Str → Option Value} {mean : ExcName → Option Value} {ns : List Str} {vs : List (Option Value)} {news : List (Addr × Obj)}
theorem sup_getMethod {pl : Sem Bool} {Q : Value × List Value → Shared → Prop} (X0 : (K w.params).In h) (hso : h.get? so = some (supO x)) (hx : h.get? x = some ox) (hxc : ox.cls = .ref 61)
    (hq : Q (.ref h.objs.size, []) ⟨h.push (mwO x), g, d, t + 1, os⟩) : wpAny (Mo w) A (getMethod (.ref so) "__init__" pl) Q E ⟨h, g, d, t, os⟩ := by
  have hlk := PySem.F.ks_slot_super_ga.lookup
  have hT : ∀ t', (⟨h, g, d, t', os⟩ : Shared).TypeIs (.ref so) "super" := fun _ => ⟨_, hso, rfl⟩
  unfold getMethod
  refine wpAny_bind (wpAny_specialOf (hT _) hlk ?_)
  (try dsimp only)
  rw [if_pos PySem.F.ks_canon_super_ga]
  unfold getAttr getAttrBy
  refine wpAny_bind (wpAny_bind (wpAny_mkText (wpAny_holding (wpAny_bind (wpAny_typeOf (hT _) (wpAny_bind (wpAny_of_eq hlk ?_)))))))
  show wpAny _ _ (getAttrByItsOwn (.ref so) (.str "__init__" t) (.type "super") (.builtin "super.__getattribute__") true false) _ _ _
  unfold getAttrByItsOwn hookBefore callGetattribute boundAndCalled
  refine wpAny_bind (wpAny_of_eq (show (if onTheHeap (.type "super") then typeLookup (.type "super") "__getattr__" else pure none) = pure none from rfl) ?_)
  refine wpAny_bind (wpAny_attempt (wpAny_holding ?_))
  show wpAny _ _ (bindSpecial (.builtin "super.__getattribute__") (.ref so) >>= _) _ _ _
  refine wpAny_bind (wpAny_of_eq (PySem.F.ks_slot_super_ga.bind _) ?_)
  refine wpAny_mono (Q := fun v s' => v = .ref h.objs.size ∧ s' = ⟨h.push (mwO x), g, d, t + 1, os⟩) (E := fun _ _ => False)
    (wpAny_call_entry PySem.F.ks_slot_super_ga (hT _) PySem.F.ks_entry_super_ga (sup_ga X0 hso hx hxc ⟨_, rfl, rfl, rfl⟩) (PySem.F.ks_gaArgs_super _ _)) (fun v s' hv => ?_) fun _ _ z => z.elim
  obtain ⟨rfl, rfl⟩ := hv
  exact wpAny_pure (wpAny_pure hq)
theorem chk_init {v : Value} {Q : Unit → Shared → Prop} (X0 : (K w.params).In h) (hx : h.get? x = some ox) (hxc : ox.cls = .ref 61) (hq : Q () ⟨h, g, d, t, os⟩) :
    wpAny (Mo w) A (checkBoundCall "Exception.__init__" ⟨[.ref x, v], []⟩) Q E ⟨h, g, d, t, os⟩ := by
  have hC := X0 _ _ (X.obj61 w.params)
  have FF := PySem.F.excBase_Exception
  have hcB : ([.ref 61, .ref 48, .type "Exception", .type "BaseException", .type "object"] : List Value).contains (.type "Exception") = true := by decide +kernel
  simp only [checkBoundCall, FF.initRow, FF.initKind]
  rw [if_pos (by decide)]
  repeat (first | (with_reducible refine wpAny_loadPart_at hx ?_; rw [hxc]) | with_reducible refine wpAny_loadPart_at hC ?_ | (with_reducible refine wpAny_isSubtype_exc hC ?_; rw [hcB]) | wp_step)
  exact hq
theorem call_mw {v : Value} {fs : Array Value} {Q : Value → Shared → Prop} (X0 : (K w.params).In h) (hxc : ox.cls = .ref 61) (hb : h.get? b = some (mwO x)) (hx : h.get? x = some ox) (hd : ox.data = .fields fs) (hs : 0 < fs.size)
    (hq : Q .none ⟨(h.push (tpO [v])).update x (Obj.mapFields (·.setIfInBounds 0 (.ref h.objs.size))), g, d, t, os⟩) : wpAny (Mo w) A (call (.ref b) [v]) Q E ⟨h, g, d, t, os⟩ := by
  refine wpAny_call (codeAny_of_tree ?_)
  show wpAny _ A.in1 (callAny (.ref b) ⟨[v], []⟩) _ _ _
  unfold callAny
  refine wpAny_bind (wpAny_load hb ?_)
  (try dsimp only)
  rw [if_pos (by decide)]
  show wpAny _ _ (checkBoundCall "Exception.__init__" ⟨[.ref x, v], []⟩ >>= fun _ => again (Code.builtin "Exception.__init__" ⟨[.ref x, v], []⟩)) _ _ _
  refine wpAny_bind (chk_init X0 hx hxc (wpAny_pure ⟨plainId_quiet X.plain_init _, codeAny_builtin X.entry_init ?_⟩))
  rw [Around.under_plainId X.plain_init _]
  unfold Builtin.«BaseException.__init__»
  (try dsimp only)
  rw [if_neg (by decide)]
  refine wpAny_bind (wpAny_newTuple ?_ (by size_fits))
  have hx1 := Heap.get?_push_of_some (h := h) (tpO [v]) hx
  refine wpAny_bind ?_
  unfold Builtin.BaseException.bexcPut
  refine wpAny_bind (wpAny_field hx1 hd (x := fs[0]) (Array.getElem?_eq_getElem hs) (wpAny_bind (wpAny_setField hx1 hd hs ?_)))
  cases fs[0] <;> first | exact wpAny_pure (wpAny_pure hq) | exact wpAny_letGo (wpAny_pure hq)
end
section
variable {w : World} {A : Around} {E : Value → Shared → Prop} {h₀ h : Heap} {g : Array GenState} {d : Drawn} {t tk : Nat} {os : OsState} {L x so b dx : Addr} {ox : Obj} {mg mb : Str → Option Value} {mean : ExcName → Option Value} {ns : List Str} {vs : List (Option Value)} {news : List (Addr × Obj)} {env : Env} {pos : Pos} {s : Shared} {es : List DictEntry} {n : Nat} {nm : Str} {v : Value}
theorem callWith_mw {e : Expr} {Q : Value → Shared → Prop} (h : wpAny (Mo w) A (eval e env) (fun v s₁ => s₁.heap.get? b = some (mwO x) ∧ wpAny (Mo w) A (call (.ref b) [v]) Q E s₁) E s)
    (he : starEach (e :: []) env = (false, eval e env) :: starEach [] env := by rfl) :
    wpAny (Mo w) A (callWith pos (.ref b) [] (backTo pos (starEach [e] env)) []) Q E s := by
  have q := r_sp (M := Mo w) (A := A) (pos := pos) (E := E) (s := s) (e := e) (as := []) (env := env) (Q := fun ws s₂ => (s₂.heap.get? b = some (mwO x) ∧ wpAny (Mo w) A (call (.ref b) ws) Q E s₂)) (wpAny_mono h (fun v s₁ q => r_sp0 q) fun _ _ x => x) he
  rw [he] at q ⊢
  unfold callWith
  refine wpAny_bind (wpAny_holding (wpAny_mono (Calls.evalArgs_plain (Q := fun a s₂ => a.kw = [] ∧ s₂.heap.get? b = some (mwO x) ∧ wpAny (Mo w) A (call (.ref b) a.pos) Q E s₂) (wpAny_mono q (fun _ _ q => ⟨rfl, q⟩) fun _ _ x => x)) (fun a s₁ h₁ => wpAny_bind (wpAny_standAt ?_)) fun _ _ x => x))
  obtain ⟨apos, akw⟩ := a
  (wtm_at "pc")
  obtain ⟨hkw, hb, hc⟩ := h₁
  (wtm_at "pu")
  dsimp only at hkw hc
  subst hkw
  have hk : wpAny (Mo w) A (keeperOf (.ref b)) (fun k s' => k = .machine ∧ s' = s₁) (fun _ _ => False) s₁ := by
    unfold keeperOf
    refine wpAny_bind (wpAny_load hb ?_)
    exact wpAny_pure ⟨rfl, rfl⟩
  have hpl : (backTo pos ((false, eval e env) :: starEach [] env)).any (fun x => x.1) = false := rfl
  simp only [hpl, List.any_nil, Bool.or_false]
  refine wpAny_bind (wpAny_mono hk (fun k s' hk' => ?_) fun _ _ z => z.elim)
  obtain ⟨rfl, rfl⟩ := hk'
  exact wpAny_bind (wpAny_mono hc (fun r s₂ hr => wpAny_bind (wpAny_holding (wpAny_point (wpAny_pure hr)))) fun _ _ x => x)
theorem Rep.noRef : ∀ {fs : List (Str × Value)} {es : List DictEntry}, Rep fs es → es.any (·.refKey) = false
  | [], [], _ => rfl
  | p :: fs, ⟨hs, key, val⟩ :: es, ⟨⟨t, hk⟩, _, r⟩ => by
    dsimp only at hk; subst hk
    rw [List.any_cons, Rep.noRef r]; rfl
  | [], _ :: _, h => h.elim
  | _ :: _, [], h => h.elim
theorem store_in {Q : Fin → Shared → Prop} (F : Fm h₀ L ns vs ((dx, dictOf es n) :: news) h) {fs : List (Str × Value)} (r : Rep fs es) (hz : fs.length ≤ 900)
    (hq : ∀ h' es' n', Rep (setF nm v fs) es' → Fm h₀ L ns vs ((dx, dictOf es' n') :: news) h' → Q (.done (.ret .none)) ⟨h', g, d, t + 1, os⟩) :
    wpAny (Mo w) A (Builtin.ObjectAttr.storeInDict dx (.str nm tk) nm v) Q E ⟨h, g, d, t, os⟩ := by
  unfold Builtin.ObjectAttr.storeInDict Builtin.ObjectAttr.newKeyGuard
  (try dsimp only)
  refine wpAny_bind (wpAny_pure (wpAny_bind ?_))
  have D := F.get (.head _)
  unfold nsSet
  refine wpAny_bind (wpAny_bind (wpAny_askSetting (wpAny_pure (wpAny_bind (wpAny_mkText (wpAny_bind (wpAny_loadPart D ?_)))))))
  show wpAny _ _ (if aRefKeyMayBeTheName nm es.toArray = true then _ else _) _ _ _
  have c : (!es.toArray.any (·.key.isStr nm) && es.toArray.any (·.refKey)) = false := by
    have := r.noRef
    simp only [List.any_toArray, this, Bool.and_false]
  rw [aRefKeyMayBeTheName_at, c, if_neg Bool.false_ne_true]
  refine wpAny_updatePart D ?_
  have hr := r.put nm (PyData.keyHash w.params nm) t v
  have hlen : (putL nm (PyData.keyHash w.params nm) (.str nm t) v es).length ≤ 1000 := by
    have e := hr.length
    have : ∀ fs : List (Str × Value), (setF nm v fs).length ≤ fs.length + 1 := fun fs => by
      induction fs with
      | nil => simp [setF]
      | cons p r ih => unfold setF; split <;> simp <;> lia
    have := this fs
    lia
  have D' : (h.update dx (Obj.putName nm (PyData.keyHash w.params nm) (.str nm t) v)).get? dx = some (dictOf (putL nm (PyData.keyHash w.params nm) (.str nm t) v es) (putN nm es n)) := by
    rw [← putName_dict]
    exact Heap.get?_update_self _ D (by rw [putName_dict]; rfl)
  have F' := F.mutH (Heap.SameBut.update h dx (Obj.putName nm (PyData.keyHash w.params nm) (.str nm t) v)).extBut D'
  refine wpAny_bind (wpAny_lookBehind D' (pastItsLine_dict (by rw [List.size_toArray, sizeLine_eq]; lia)) ?_)
  exact wpAny_pure (hq _ _ _ hr F')
noncomputable abbrev exO (dd : Option Addr) (fs : Array Value) : Obj := { cls := .ref 61, dict := dd, data := .fields fs, slots := #[] }
theorem exc_inst {fs : Array Value} (hx : h.get? x = some (exO none fs)) : InstAt h x (exO none fs) 61 none := ⟨hx, rfl, rfl, trivial⟩
theorem exc_instD {fs : Array Value} {od : Obj} (hx : h.get? x = some (exO (some dx) fs)) (hd : h.get? dx = some od) : InstAt h x (exO (some dx) fs) 61 (some od) := ⟨hx, rfl, rfl, hd⟩
theorem exc_open {od : Option Obj} {tk : Tok} {R : Result → Shared → Prop} (X0 : (K w.params).In h) (I : InstAt h x ox 61 od) (ht : findIn (K w.params) (.ref 61) nm = some none)
    (hq : wpAny (Mo w) A.in1 (Builtin.ObjectAttr.storeInOwnDict (.ref x) (.ref 61) (.str nm tk) nm v false) (fun fin s' => match fin with | .done f => R (.ok f) s' | .again c' => c'.quiet = true ∧ codeAny (Mo w) A c' R s') (fun e s' => R (.error e) s') ⟨h, g, d, t, os⟩) :
    codeAny (Mo w) A (.call (.builtin "object.__setattr__") ⟨[.ref x, .str nm tk, v], []⟩) R ⟨h, g, d, t, os⟩ := by
  have SF := PySem.F.store_object
  have sub : Looks (Mo w) h (isInstance (.ref x) (.type "object")) true := I.type.andThen (looks_mroIn X0 (by kernel_rfl))
  refine codeAny_call_builtin SF.slot.plain SF.entry (@check_slot (Mo w) _ _ ⟨h, g, d, t, os⟩ "object.__setattr__" "object" "__setattr__" (.ref x) [.str nm tk, v] [] _ SF.kind SF.split sub (SF.args (.ref x) (.str nm tk) v) ?_)
  have hm : Looks (Mo w) h (mroOf (.ref 61)) [.ref 61, .ref 48, .type "Exception", .type "BaseException", .type "object"] := (looks_clsIn X0 (X.mro61 _)).andThen .now
  rw [osa_eq, refuse_eq]
  refine wpAny_bind (wpAny_bind (I.type.here (wpAny_bind (hm.here ?_))))
  rw [refuseLoop_ref, refuseLoop_ref, PySem.F.store_Exception.passes]
  refine wpAny_pure (wpAny_bind (I.type.here (wpAny_bind ((looks_findIn X0 ht).here (wpAny_bind (wpAny_pure ?_))))))
  exact hq
theorem r_setX1 {fs : Array Value} {Q : Unit → Shared → Prop} (W : Wd w mg mb mean h₀) (F : Fm h₀ L ns vs ((x, exO none fs) :: news) h) (ht : findIn (K w.params) (.ref 61) nm = some none)
    (hq : ∀ h' dx es n, Rep [(nm, v)] es → Fm h₀ L ns vs ((dx, dictOf es n) :: (x, exO (some dx) fs) :: news) h' → Q () ⟨h', g, d, t + 2, os⟩) : wpAny (Mo w) A (setAttr (.ref x) nm v) Q E ⟨h, g, d, t, os⟩ := by
  have X0 := W.k.keeps F.keep
  have hx := F.get (.head _)
  refine set_plain (s := ⟨h, g, d, t, os⟩) X0 (exc_inst hx) (X.find_sa _) (exc_open X0 (exc_inst hx) ht ?_)
  refine wpAny_bind (wpAny_pure (wpAny_bind (wpAny_bind (wpAny_loadPart hx (wpAny_bind ((looks_clsIn X0 (X.mro61 _)).here ?_))))))
  rw [if_neg (by decide)]
  (try dsimp only)
  rw [if_neg (show ¬ (!true || !typeHasDict (.ref 61)) = true by decide)]
  have hx1 := Heap.get?_push_of_some (h := h) emptyDict hx
  refine wpAny_bind (wpAny_alloc' (wpAny_bind (wpAny_update' hx1 ?_)))
  have hx2 : ((h.push emptyDict).update x fun o => { cls := o.cls, dict := some h.objs.size, data := o.data, slots := o.slots }).get? x = some (exO (some h.objs.size) fs) := Heap.get?_update_self _ hx1 rfl
  have F1 : Fm h₀ L ns vs ((h.objs.size, dictOf [] 0) :: (x, exO (some h.objs.size) fs) :: news) _ := ((F.push emptyDict).swap.mutH (Heap.SameBut.update (h.push emptyDict) x _).extBut hx2).swap
  refine wpAny_pure ?_
  refine store_in (fs := []) F1 trivial (by simp) fun h' es' n' r F' => ?_
  exact hq _ _ _ _ r F'
theorem r_setX2 {fs : Array Value} {as : List (Str × Value)} {Q : Unit → Shared → Prop} (W : Wd w mg mb mean h₀) (F : Fm h₀ L ns vs ((dx, dictOf es n) :: (x, exO (some dx) fs) :: news) h) (r : Rep as es) (hz : as.length ≤ 900) (ht : findIn (K w.params) (.ref 61) nm = some none)
    (hq : ∀ h' es' n', Rep (setF nm v as) es' → Fm h₀ L ns vs ((dx, dictOf es' n') :: (x, exO (some dx) fs) :: news) h' → Q () ⟨h', g, d, t + 2, os⟩) : wpAny (Mo w) A (setAttr (.ref x) nm v) Q E ⟨h, g, d, t, os⟩ := by
  have X0 := W.k.keeps F.keep
  have hx := F.get (.tail _ (.head _))
  have I := exc_instD hx (F.get (.head _))
  refine set_plain (s := ⟨h, g, d, t, os⟩) X0 I (X.find_sa _) (exc_open X0 I ht ?_)
  refine wpAny_bind (wpAny_pure (wpAny_bind (wpAny_bind (wpAny_loadPart hx (wpAny_bind ((looks_clsIn X0 (X.mro61 _)).here ?_))))))
  rw [if_neg (by decide)]
  (try dsimp only)
  refine wpAny_pure ?_
  exact store_in F r hz fun h' es' n' r F' => hq _ _ _ r F'
end
theorem df38 (w : World) : (K w.params).lookup 38 = some (a30 w.params) := by kernel_rfl
theorem fi38 : Fi (fnS (mt 2 0)) ["self", "what", "at"] [] [] [] := Fi.of (by kernel_rfl)
noncomputable abbrev fd38 : FuncData := ⟨"__init__", "ShapeError.__init__", fnA (mt 2 0), .stmts (fnB (mt 2 0)), fnS (mt 2 0), 3, [("__class__", 25)], (.ref 30), .none, .none, (.str "joinedhand.errors" 194), none, (.ref 37), (.ref 31), 0⟩
theorem Fm.more {h₀ h h' : Heap} {L so : Addr} {ns : List Str} {vs : List (Option Value)} {news : List (Addr × Obj)} {o : Obj} {m : Str → Option Value} (F : Fm h₀ L ns vs news h) (l : ∀ (i : Nat) (x : Str) (v : Value), ns[i]? = some x → vs[i]? = some (some v) → m x = some v) (f : Fr h₀ L h' m) (N : News h₀ L h' ((so, o) :: news)) (lt : ∀ p ∈ news, p.1 < so) : Fm h₀ L ns vs ((so, o) :: news) h' :=
  ⟨⟨m, f, l⟩, N, by
    rw [List.map_cons, List.nodup_cons]
    refine ⟨fun q => ?_, F.nd⟩
    (wtm_at "pc")
    obtain ⟨p, hp, e⟩ := List.mem_map.mp q
    (wtm_at "pu")
    have := lt p hp
    rw [e] at this; exact Nat.lt_irrefl _ this⟩
theorem X.mro48 (P : Params) : clsIn (K P) 48 = some ⟨"ShapeError", [(.type "Exception")], [(.ref 48), (.type "Exception"), (.type "BaseException"), (.type "object")], 47, "ShapeError", true, [], [(.ref 61), (.ref 73)], false, none, false⟩ := by kernel_rfl
section
variable {w : World} {A : Around} {E : Value → Shared → Prop} {h₀ hb h : Heap} {g : Array GenState} {d : Drawn} {t tk : Nat} {os : OsState} {L x so b dx : Addr} {ox : Obj} {mg mb : Str → Option Value} {mean : ExcName → Option Value} {ns : List Str} {vs : List (Option Value)} {news : List (Addr × Obj)} {env : Env} {pos : Pos} {s : Shared} {es : List DictEntry} {n : Nat} {nm : Str} {v : Value}
theorem exc_init {fs : Array Value} {wh : Str} {at_ : Int} {t₀ t₁ : Tok} {R : Result → Shared → Prop} (W : Wd w mg mb mean hb) (kb : Ext hb h) (hx : h.get? x = some (exO none fs)) (hbx : hb.get? x = none) (h0 : 0 < fs.size) (hroom : A.depth < recursionLimit)
    (hq : ∀ h' tk' dx es n fs', Ext (hideAll h [x]) h' → h'.get? x = some (exO (some dx) fs') → h'.get? dx = some (dictOf es n) → h.get? dx = none → dx ≠ x → Rep [("what", .str wh t₀), ("at", .int at_ t₁)] es → (fs'.size = fs.size ∧ ∀ i, i ≠ 0 → fs'[i]? = fs[i]?) → R (.ok (.ret .none)) ⟨h', g, d, tk', os⟩) :
    codeAny (Mo w) A (.call (.ref 38) ⟨[.ref x, .str wh t₀, .int at_ t₁], []⟩) R ⟨h, g, d, t, os⟩ := by
  have X0 : (K w.params).In h := W.k.keeps kb
  refine ks_codeAny_call_defAt (a := 38) (o := a30 w.params) (body := fnB (mt 2 0)) (binds := [("self", .ref x), ("what", .str wh t₀), ("at", .int at_ t₁)]) hroom (X0 _ _ (df38 w)) rfl (W.t.nolimit.keeps kb) (codeRec_of X0 (by kernel_rfl)) rfl (BindsTo.of_defaults (o := a22 w.params) rfl (X0 _ _ (by kernel_rfl)) rfl rfl rfl) (of_decide_eq_true (by kernel_rfl)) (fun y hy => ?_) (fun h₁ hns hk₁ => ?_)
  · simp only [List.mem_cons, List.not_mem_nil, or_false] at hy
    rcases hy with rfl | rfl | rfl <;> kernel_rfl
  have F : Fm (hideAll h [x]) h.objs.size ["self", "what", "at"] [some (.ref x), some (.str wh t₀), some (.int at_ t₁)] [(x, exO none fs)] h₁ := by
    have hxl : x < h.objs.size := Heap.lt_size hx
    refine ⟨⟨_, ⟨hns, fun b o e => hk₁ b o (of_hideAll _ e), Nat.le_of_eq (hideAll_size _ _)⟩, fun i y z hi hv => ?_⟩, fun p hp => ?_, by simp⟩
    · match i, hi, hv with
      | 0, hi, hv => cases hi; cases hv; rfl
      | 1, hi, hv => cases hi; cases hv; rfl
      | 2, hi, hv => cases hi; cases hv; rfl
      | n + 3, hi, _ => simp at hi
    · obtain rfl := List.mem_singleton.mp hp
      exact ⟨hk₁ _ _ hx, Nat.ne_of_lt hxl, hideAll_none _ (by simp)⟩
  have W1 : Wd w mg mb mean (hideAll h [x]) := W.keeps fun b o e => hideAll_get _ (kb b o e) (fun q => by
    obtain rfl := List.mem_singleton.mp q
    rw [hbx] at e; cases e)
  refine ks_wpAt_execs_cons (ks_wpAt_Expr_any ?_)
  have en : En (callEnv fd38 h.objs.size 38) h.objs.size (fnS (mt 2 0)) [("__class__", 25)] := ⟨rfl, rfl, rfl, rfl, rfl⟩
  have Y := fi38
  refine ks_wpAt_MethodCall ?_
  (wtm_at "pc")
  obtain ⟨m, f, l⟩ := F.fr
  (wtm_at "pu")
  refine ks_node (p := topProg) (loose := topLoose) (mean := mean) (mg := mg) (mb := mb) (x := x) (C := 61) (D := 48) (cc := 25) (f := 38) (cda := 37) (fd := fd38) f W1.k F.led W1.t (df38 w) rfl (l 0 "self" _ rfl rfl) (exc_inst (F.get (.head _))) (show (K w.params).lookup 37 = some (a29 w.params) by kernel_rfl) rfl (by kernel_rfl) (show (K w.params).lookup 25 = some (a17 w.params) by kernel_rfl) (X.mro48 w.params) (by kernel_rfl) (by kernel_rfl) (by decide +kernel) (by kernel_rfl) (by kernel_rfl) (by kernel_rfl) rfl (by kernel_rfl) (by kernel_rfl) fun so h2 f2 N2 lt2 => ?_
  have F2 := F.more l f2 N2 lt2
  refine sup_getMethod (W1.k.keeps F2.keep) (F2.get (.head _)) (F2.get (.tail _ (.head _))) rfl ?_
  have F3 := F2.push (mwO x)
  refine callWith_mw (x := x) (r_loc en Y F3 (.tail .head) ⟨F3.get (.head _), ?_⟩)
  refine call_mw (W1.k.keeps F3.keep) rfl (F3.get (.head _)) (F3.get (.tail _ (.tail _ (.head _)))) rfl h0 ?_
  have F4 := F3.push (tpO [.str wh t₀])
  have hx4 := F4.get (a := x) (.tail _ (.tail _ (.tail _ (.head _))))
  have hx5 := Heap.get?_update_self (Obj.mapFields (·.setIfInBounds 0 (Value.ref (h2.push (mwO x)).objs.size))) hx4 (Obj.isFreed_of_fields (Obj.data_mapFields rfl _))
  have F5 := F4.mut (pre := [_, _, _]) (post := []) rfl (h' := ((h2.push (mwO x)).push (tpO [.str wh t₀])).update x (Obj.mapFields (·.setIfInBounds 0 (Value.ref (h2.push (mwO x)).objs.size)))) (fun b o hb e => (Heap.SameBut.update _ x _).extBut b o (by simpa using hb) e) hx5
  replace F5 := F5.drop (news' := [(x, exO none (fs.setIfInBounds 0 (Value.ref (h2.push (mwO x)).objs.size)))]) (.cons _ (.cons _ (.cons _ (.refl _))))
  (try dsimp only)
  refine wpAt_of_wpAny ?_
  generalize hH : ((h2.push (mwO x)).push (tpO [.str wh t₀])).update x (Obj.mapFields (·.setIfInBounds 0 (Value.ref (h2.push (mwO x)).objs.size))) = H5 at F5
  generalize hfs : fs.setIfInBounds 0 (Value.ref (h2.push (mwO x)).objs.size) = fs' at F5
  clear F F2 F3 F4 hx5 hx4
  have F := F5
  have W := W1
  clear F5
  repeat (wtm_at "ev")
  refine r_setX1 W F (by kernel_rfl) fun h6 dx es n r F => ?_
  repeat (wtm_at "ev")
  refine r_setX2 W F r (by simp) (by kernel_rfl) fun h7 es n r F => ?_
  repeat (wtm_at "ev")
  have nd := F.nd
  rw [List.map_cons, List.map_cons, List.nodup_cons] at nd
  have ne : dx ≠ x := fun q => nd.1 (by rw [show (dx, dictOf es n).1 = (x, exO (some dx) fs').1 from q]; exact .head _)
  refine hq _ _ _ _ _ _ F.keep (F.get (.tail _ (.head _))) (F.get (.head _)) ?_ ne (r.of (by kernel_rfl)) ?_
  · have := (F.led _ (.head _)).2.2
    cases q : h.get? dx with
    | none => rfl
    | some o => rw [show (hideAll h [x]).get? dx = some o from hideAll_get _ q (by simpa using ne)] at this; cases this
  · subst hfs
    refine ⟨by simp, fun i hi => ?_⟩
    rw [Array.getElem?_setIfInBounds_ne (Ne.symm hi)]
end
section
variable {w : World} {A : Around} {E : Value → Shared → Prop} {R : Result → Shared → Prop} {h₀ hb h : Heap} {g : Array GenState} {d : Drawn} {t tk : Nat} {os : OsState} {L x so b dx : Addr} {ox : Obj} {mg mb : Str → Option Value} {mean : ExcName → Option Value} {ns : List Str} {vs : List (Option Value)} {news : List (Addr × Obj)} {env : Env} {pos : Pos} {s : Shared} {es : List DictEntry} {n : Nat} {nm : Str} {v : Value}
noncomputable abbrev bm61 : List Value := [.ref 48, .type "Exception", .type "BaseException", .type "object"]
theorem chk_new {rest : List Value} {Q : Unit → Shared → Prop} (X0 : (K w.params).In h) (hq : Q () ⟨h, g, d, t, os⟩) : wpAny (Mo w) A (checkBuiltinCall "Exception.__new__" ⟨.ref 61 :: rest, []⟩) Q E ⟨h, g, d, t, os⟩ := by
  have hC := X0 _ _ (X.obj61 w.params)
  have FF := PySem.F.excBase_Exception
  have hcont : (Value.ref 61 :: bm61).contains (.type "Exception") = true := by decide +kernel
  have hstar := FF.noStar
  simp only [checkBuiltinCall, FF.newKind, FF.newSplit, FF.newRow]
  repeat (first | refine wpAny_loadPart_at hC ?_ | (refine wpAny_isSubtype_exc hC ?_; rw [hcont]) | refine wpAny_staticBase_exc hC ?_ | refine wpAny_madeBy_exc hC ?_ | simp only [bne_self_eq_false, Bool.false_eq_true, if_false] | wp_step)
  exact hq
theorem exc_new {rest : List Value} (X0 : (K w.params).In h) (hrest : rest.length ≤ 1000)
    (hq : R (.ok (.ret (.ref (h.objs.size + 1)))) ⟨(h.push (tpO rest)).push (exO none #[.ref h.objs.size, .none, .none, .none, .bool false, .none]), g, d, t, os⟩) :
    codeAny (Mo w) A (.builtin "Exception.__new__" ⟨.ref 61 :: rest, []⟩) R ⟨h, g, d, t, os⟩ := by
  have hC := X0 _ _ (X.obj61 w.params)
  have FF := PySem.F.excBase_Exception
  have hends := FF.ends
  have hcB : (Value.ref 61 :: bm61).contains (.type "Exception") = true := by decide +kernel
  have hcA : (Value.ref 61 :: bm61).contains (.type "AttributeError") = false := by decide +kernel
  have hcN : (Value.ref 61 :: bm61).contains (.type "NameError") = false := by decide +kernel
  have hrest' : rest.length ≤ sizeLine := by rw [sizeLine_eq]; lia
  refine codeAny_builtinAt FF.entry ?_
  unfold Builtin.«BaseException.__new__»
  refine PySem.wpAt_bind ?_
  show PySem.wpAt _ _ _ (stack >>= _) _ _ _
  refine PySem.wpAt_bind (PySem.wpAt_stack fun p below => PySem.wpAt_of_wpAny ?_)
  wp_walk
  refine PySem.wpAt_of_wpAny ?_
  rw [FF.owner]
  repeat (first | with_reducible refine wpAny_madeHere_exc FF.canon hC ?_ | with_reducible refine wpAny_loadPart_at hC ?_ | (with_reducible refine wpAny_isSubtype_exc hC ?_; first | rw [hcB] | rw [hcA] | rw [hcN]) | wp_step)
  show R _ _
  rw [Heap.size_push]
  exact hq
theorem exc_call {wh : Str} {at_ : Int} {t₀ t₁ : Tok} {Q : Value → Shared → Prop} (W : Wd w mg mb mean h) (Rr : Rm 1 A)
    (hq : ∀ h' x dx es n fs', Ext h h' → h'.get? x = some (exO (some dx) fs') → h'.get? dx = some (dictOf es n) → h.get? x = none → h.get? dx = none → dx ≠ x → Rep [("what", .str wh t₀), ("at", .int at_ t₁)] es → (1 < fs'.size ∧ fs'[1]? = some .none) → ∀ tk', Q (.ref x) ⟨h', g, d, tk', os⟩) :
    wpAny (Mo w) A (call (.ref 61) [.str wh t₀, .int at_ t₁]) Q E ⟨h, g, d, t, os⟩ := by
  have X0 := W.k
  have hC := X0 _ _ (X.obj61 w.params)
  have f1 := tc_lookup
  have f2 := tc_bind (.ref 61)
  have hT : (⟨h, g, d, t, os⟩ : Shared).TypeIs (.ref 61) "type" := ⟨_, hC, rfl⟩
  refine wpAny_call (codeAny_of_tree ?_)
  show wpAny _ _ (callAny (.ref 61) _) _ _ _
  repeat (any_goals (first | assumption | with_reducible refine wpAny_loadPart_at hC ?_ | wp_step))
  refine ⟨rfl, ?_⟩
  refine codeAny_call_builtin_at (Code.quiet_builtin _ (by decide +kernel)) entry_typeCall (wpAny_check_type_call_sub hC ?_)
  repeat (first | with_reducible refine wpAny_loadPart_at hC ?_ | with_reducible refine wpAny_madeBy_exc hC ?_ | wp_step)
  refine codeAny_call_builtin_code (Code.quiet_builtin _ (by decide +kernel)) (chk_new X0 (exc_new X0 (by simp) ?_))
  show wpAny _ _ _ _ _ _
  have k2 : Ext h ((h.push (tpO [.str wh t₀, .int at_ t₁])).push (exO none #[.ref h.objs.size, .none, .none, .none, .bool false, .none])) := fun b o e => Heap.get?_push_of_some _ (Heap.get?_push_of_some _ e)
  have hx2 : ((h.push (tpO [.str wh t₀, .int at_ t₁])).push (exO none #[.ref h.objs.size, .none, .none, .none, .bool false, .none])).get? (h.objs.size + 1) = some (exO none #[.ref h.objs.size, .none, .none, .none, .bool false, .none]) := by
    have := Heap.get?_push_size (h.push (tpO [.str wh t₀, .int at_ t₁])) (o := exO none #[.ref h.objs.size, .none, .none, .none, .bool false, .none]) rfl
    rwa [Heap.size_push] at this
  have X2 : (K w.params).In _ := X0.keeps k2
  have t1 : Looks (Mo w) _ (typeOf (.ref (h.objs.size + 1))) (.ref 61) := (Looks.ld (part := some headPart) hx2).andThen .now
  have s1 : Looks (Mo w) _ (isInstance (.ref (h.objs.size + 1)) (.ref 61)) true := t1.andThen (looks_mroIn X2 (by kernel_rfl))
  refine wpAny_bind (s1.at ?_)
  rw [if_neg (by decide)]
  refine wpAny_bind (wpAny_holding ?_)
  unfold callSpecial? specialOf
  refine wpAny_bind (wpAny_bind (t1.at ((looks_findIn X2 (X.find_init _)).at (wpAny_holding ?_))))
  refine wpAny_bind ((bind_fn X2 _ (by kernel_rfl)).at ?_)
  have R1 := under_make (C := 61) (rest := [.str wh t₀, .int at_ t₁]) (n := 0) Rr
  refine wpAny_bind (wpAny_call (exc_init (hb := h) W k2 hx2 (Heap.get?_none_of_le (Nat.le_succ _)) (by simp) R1.room fun h' tk' dx es n fs' kx e1 e2 e3 ne rep hf => ?_))
  refine wpAny_pure (wpAny_pure (hq _ _ _ _ _ _ (fun b o e => kx _ _ (hideAll_get _ (k2 _ _ e) ?_)) e1 e2 (Heap.get?_none_of_le (Nat.le_succ _)) ?_ ne rep ?_ _))
  · intro q
    have hb := Heap.lt_size e
    have hq := List.mem_singleton.mp q
    exact absurd hb (by rw [hq]; exact Nat.not_lt.mpr (Nat.le_succ _))
  · cases q : h.get? dx with
    | none => rfl
    | some o => rw [k2 _ _ q] at e3; cases e3
  · refine ⟨by rw [hf.1]; simp, by rw [hf.2 1 (by decide)]; rfl⟩
end
structure Ent (fs : List Addr) (e : Addr) (h h' : Heap) : Prop where
  other : ∀ b o, b ∉ fs → b ≠ e → h.get? b = some o → h'.get? b = some o
  frame : ∀ b o, b ≠ e → h.get? b = some o → ∃ sl, h'.get? b = some { o with slots := sl }
theorem Ent.trans {fs : List Addr} {e : Addr} {h h' h'' : Heap} (x : Ent fs e h h') (y : Ent fs e h' h'') : Ent fs e h h'' :=
  ⟨fun b o m n q => y.other b o m n (x.other b o m n q), fun b o n q => let ⟨s1, e1⟩ := x.frame b o n q; let ⟨s2, e2⟩ := y.frame b _ n e1; ⟨s2, e2⟩⟩
theorem Ent.fun_ {fs : List Addr} {e : Addr} {h h' B : Heap} {l : List Env} (x : Ent fs e h h') (hl : h.FunFrames B l) (he : e ∉ l.filterMap (·.frame)) : h'.FunFrames B l := by
  induction l with
  | nil => trivial
  | cons env r ih =>
    (wtm_at "pc")
    obtain ⟨hk, ⟨L, o, hf, hn, ho, hd⟩, hr⟩ := hl
    (wtm_at "pu")
    have ne : L ≠ e := fun q => he (List.mem_filterMap.mpr ⟨env, .head _, by rw [hf, q]⟩)
    obtain ⟨sl, hs⟩ := x.frame L o ne ho
    exact ⟨hk, ⟨L, _, hf, hn, hs, hd⟩, ih hr fun q => he (by
      (wtm_at "pc")
      obtain ⟨v, hv, e1⟩ := List.mem_filterMap.mp q
      (wtm_at "pu")
      exact List.mem_filterMap.mpr ⟨v, .tail _ hv, e1⟩)⟩
section
variable {w : World} {M : Model} {A : Around} {E : Value → Shared → Prop} {h₀ B h : Heap} {g : Array GenState} {d : Drawn} {t tk : Nat} {os : OsState} {L e T dx : Addr} {fs : Array Value} {env : Env} {outer : List Env} {s : Shared}
theorem raise_x {x : Sem Value} {Q : Flow → Shared → Prop} (hh : A.handled = none)
    (h : wpAny (Mo w) A x (fun v s₁ => ∃ e dd fs, v = .ref e ∧ (K w.params).In s₁.heap ∧ s₁.heap.get? e = some (exO dd fs) ∧ fs[1]? = some .none ∧ E (.ref e) s₁) E s) : wpAny (Mo w) A (raiseStmt env (some x) none) Q E s := by
  unfold raiseStmt
  refine wpAny_bind (wpAny_mono h (fun v s₁ h₁ => ?_) fun _ _ x => x)
  (wtm_at "pc")
  obtain ⟨e, dd, fs, rfl, X0, he, h1, hE⟩ := h₁
  (wtm_at "pu")
  have hC := X0 _ _ (X.obj61 w.params)
  have hcB : (Value.ref 61 :: bm61).contains (.type "BaseException") = true := by decide +kernel
  have hd : (exO dd fs).data = .fields fs := rfl
  (wtm_at "pc")
  obtain ⟨hp, g, d, tk, os⟩ := s₁
  (wtm_at "pu")
  repeat (first | with_reducible refine wpAny_loadPart_at he ?_ | with_reducible refine wpAny_loadPart_at hC ?_ | (with_reducible refine wpAny_field he hd h1 ?_) | (with_reducible refine wpAny_isSubtype_exc hC ?_; rw [hcB]) | wp_step)
  exact wpAny_raiseNew_none hh hE
theorem frames_not {l : List Env} (hl : h.FunFrames B l) {fs : Array Value} {dd : Option Addr} (he : h.get? e = some (exO dd fs)) : e ∉ l.filterMap (·.frame) := fun q => by
  (wtm_at "pc")
  obtain ⟨_, o, ho, hd⟩ := hl.mem q
  (wtm_at "pu")
  rw [he] at ho; cases ho
  exact hd _ rfl
theorem entry_x {head : Value} {hadNext : Bool} {Q : Unit → Shared → Prop} (hfr : A.frames = some (env :: outer)) (hl : h.FunFrames B (env :: outer)) (hf : env.frame = some L) (he : h.get? e = some (exO (some dx) fs)) (h1 : 1 < fs.size)
    (hq : ∀ h' T ts, Ent ((env :: outer).filterMap (·.frame)) e h h' → h'.get? e = some (exO (some dx) (fs.setIfInBounds 1 (.ref T))) → h.get? T = none → T ≠ e → h'.get? T = some { cls := .type "traceback", data := .fields ts } → ts[3]? = some (rawInt L) → Q () ⟨h', g, d, t, os⟩) :
    wpAny M A (do let a ← frameOf env; let pl ← entryPlaceOf L hadNext; let b ← EntryCells.newEntry head a .none (rawInt L) .none pl; setField (.ref e) 1 b) Q E ⟨h, g, d, t, os⟩ := by
  have hne := frames_not hl he
  refine wpAny_bind (wpAny_frameOf_fun hfr hl hf fun h₁ hs₁ => wpAny_bind (wpAny_entryPlaceOf fun pl hpl => ?_))
  unfold EntryCells.newEntry newFields
  refine wpAny_bind (wpAny_newObj_type ?_ (hpl.sizeOk5 _ _ _ _ _))
  obtain ⟨ts, hts⟩ : ∃ ts, ts = ([head, .ref L, .none, rawInt L, .none] ++ (if pl.isEmpty then List.replicate 6 Value.none else pl)).toArray := ⟨_, rfl⟩
  have ht3 : ts[3]? = some (rawInt L) := by rw [hts]; rfl
  rw [← hts]
  have he₁ : h₁.get? e = some (exO (some dx) fs) := (hs₁.2.1 e hne).trans he
  have he₂ := Heap.get?_push_of_some (h := h₁) { cls := .type "traceback", dict := none, data := .fields ts } he₁
  have hTe : h₁.objs.size ≠ e := Nat.ne_of_gt (Heap.lt_size he₁)
  refine wpAny_setField he₂ rfl h1 (hq _ h₁.objs.size ts ⟨fun b o m n q => ?_, fun b o n q => ?_⟩ (Heap.get?_update_self _ he₂ rfl) ?_ hTe ?_ ht3)
  · rw [Heap.get?_update_other _ _ (Ne.symm n)]
    exact Heap.get?_push_of_some _ ((hs₁.2.1 b m).trans q)
  · obtain ⟨sl, hs⟩ := hs₁.2.2 b o q
    refine ⟨sl, ?_⟩
    rw [Heap.get?_update_other _ _ (Ne.symm n)]
    exact Heap.get?_push_of_some _ hs
  · exact Heap.get?_none_of_le (by rw [hs₁.1]; exact Nat.le_refl _)
  · rw [Heap.get?_update_other _ _ (Ne.symm hTe)]
    exact Heap.get?_push_size _ rfl
theorem flight_x {fl : Value} {ts : Array Value} {c : Value} {S : List Addr} {Q : Unit → Shared → Prop} (he : h.get? e = some (exO (some dx) fs)) (h1 : fs[1]? = some (.ref T)) (hT : h.get? T = some { cls := c, data := .fields ts }) (h3 : ts[3]? = some fl) (hTe : T ≠ e)
    (hq : ∀ h' ts', (∀ b o, b ≠ T → h.get? b = some o → h'.get? b = some o) → h'.get? e = some (exO (some dx) fs) → h'.get? T = some { cls := c, data := .fields ts' } → ts'[3]? = some .none → Q () ⟨h', g, d, t, os⟩) : wpAny M A (setFlight (.ref e) none) Q E ⟨h, g, d, t, os⟩ := by
  have hsz := (Array.getElem?_eq_some_iff.mp h3).1
  unfold setFlight
  refine wpAny_bind (wpAny_field he rfl h1 ?_)
  rw [if_pos (show (Value.ref T != Value.none) = true from by simp)]
  refine wpAny_setField hT rfl hsz (hq _ (ts.setIfInBounds 3 .none) (fun b o n q => ?_) ?_ (Heap.get?_update_self _ hT rfl) (by simp [hsz]))
  · rw [Heap.get?_update_other _ _ (Ne.symm n)]; exact q
  · rw [Heap.get?_update_other _ _ hTe]; exact he
end
structure Fly (S : List Addr) (e dx : Addr) (fl : Value) (h0 h : Heap) : Prop where
  ent : Ent S e h0 h
  ex : ∃ fs T ts c, h.get? e = some (exO (some dx) fs) ∧ fs[1]? = some (.ref T) ∧ h0.get? T = none ∧ T ≠ e ∧ h.get? T = some { cls := c, data := .fields ts } ∧ ts[3]? = some fl
theorem Ent.mono {S S' : List Addr} {e : Addr} {h h' : Heap} (x : Ent S e h h') (k : ∀ b ∈ S, b ∈ S') : Ent S' e h h' := ⟨fun b o m n q => x.other b o (fun z => m (k b z)) n q, x.frame⟩
section
variable {w : World} {M : Model} {A : Around} {E : Value → Shared → Prop} {h0 B h : Heap} {g : Array GenState} {d : Drawn} {t tk : Nat} {os : OsState} {L e T dx : Addr} {fs : Array Value} {env : Env} {outer : List Env} {s : Shared} {S : List Addr} {fl : Value}
theorem leave_x {Q : Unit → Shared → Prop} (hfr : A.frames = some (env :: outer)) (hl : h.FunFrames B (env :: outer)) (hf : env.frame = some L) (he : h.get? e = some (exO (some dx) fs)) (h1 : fs[1]? = some .none)
    (hq : ∀ h', Fly ((env :: outer).filterMap (·.frame)) e dx .none h h' → Q () ⟨h', g, d, t, os⟩) : wpAny M A (leaving env (.ref e)) Q E ⟨h, g, d, t, os⟩ := by
  have hsz := (Array.getElem?_eq_some_iff.mp h1).1
  unfold leaving noteFrame
  simp only [hf]
  refine wpAny_bind (wpAny_bind (wpAny_field he rfl h1 ?_))
  rw [if_neg (by decide)]
  refine entry_x hfr hl hf he hsz fun h' T ts en he' hT hTe hT' h3 => ?_
  refine flight_x (S := []) he' (by simp [hsz]) hT' h3 hTe fun h'' ts' k he'' hT'' h3' => ?_
  refine hq h'' ⟨⟨fun b o m n q => ?_, fun b o n q => ?_⟩, _, T, ts', _, he'', by simp [hsz], hT, hTe, hT'', h3'⟩
  · exact k b o (fun z => by rw [z, hT] at q; cases q) (en.other b o m n q)
  · obtain ⟨sl, e1⟩ := en.frame b o n q
    exact ⟨sl, k b _ (fun z => by rw [z, hT] at q; cases q) e1⟩
theorem land_x {Q : Unit → Shared → Prop} (F : Fly S e dx fl h0 h) (hq : ∀ h', Fly S e dx .none h0 h' → Q () ⟨h', g, d, t, os⟩) : wpAny M A (setFlight (.ref e) none) Q E ⟨h, g, d, t, os⟩ := by
  (wtm_at "pc")
  obtain ⟨en, fs, T, ts, c, he, h1, hT, hTe, hT', h3⟩ := F
  (wtm_at "pu")
  refine flight_x (S := S) he h1 hT' h3 hTe fun h'' ts' k he'' hT'' h3' => ?_
  refine hq h'' ⟨⟨fun b o m n q => ?_, fun b o n q => ?_⟩, _, T, ts', _, he'', h1, hT, hTe, hT'', h3'⟩
  · exact k b o (fun z => by rw [z, hT] at q; cases q) (en.other b o m n q)
  · obtain ⟨sl, e1⟩ := en.frame b o n q
    exact ⟨sl, k b _ (fun z => by rw [z, hT] at q; cases q) e1⟩
theorem note_x {Q : Unit → Shared → Prop} (hfr : A.frames = some (env :: outer)) (hl : h.FunFrames B (env :: outer)) (hf : env.frame = some L) (hS : ∀ b ∈ (env :: outer).filterMap (·.frame), b ∈ S) (F : Fly S e dx .none h0 h)
    (hq : ∀ h', Fly S e dx (rawInt L) h0 h' → Q () ⟨h', g, d, t, os⟩) : wpAny M A (noteFrame (.ref e) env) Q E ⟨h, g, d, t, os⟩ := by
  (wtm_at "pc")
  obtain ⟨en, fs, T, ts, c, he, h1, hT, hTe, hT', h3⟩ := F
  (wtm_at "pu")
  have hsz := (Array.getElem?_eq_some_iff.mp h1).1
  have hTf := frames_not hl he
  unfold noteFrame
  simp only [hf]
  refine wpAny_bind (wpAny_field he rfl h1 ?_)
  rw [if_pos (show (Value.ref T != Value.none) = true from by simp)]
  refine wpAny_bind (wpAny_field hT' rfl h3 ?_)
  rw [if_neg (show ¬ ((Value.none == rawInt L) = true) from by simp [rawInt])]
  refine wpAny_bind (wpAny_setField hT' rfl (Array.getElem?_eq_some_iff.mp h3).1 ?_)
  have oth : ∀ b, b ≠ T → (h.update T (Obj.mapFields (·.setIfInBounds 3 Value.none))).get? b = h.get? b := fun b hb => Heap.get?_update_other _ _ (Ne.symm hb)
  have hTn : ∀ b o, h.get? b = some o → (∀ vs, o.data ≠ .fields vs) → b ≠ T := fun b o hb hn z => by
    rw [z, hT'] at hb; cases hb; exact hn _ rfl
  have hl' : (h.update T (Obj.mapFields (·.setIfInBounds 3 Value.none))).FunFrames B (env :: outer) := hl.of_keeps fun b o hb hn => ⟨o, (oth b (hTn b o hb hn)).trans hb, rfl⟩
  refine entry_x hfr hl' hf ((oth e (Ne.symm hTe)).trans he) hsz fun h' T' ts' en' he' hN hTe' hT'' h3' => ?_
  have h0T : h0.get? T' = none := by
    cases z : h0.get? T' with
    | none => rfl
    | some o =>
      obtain ⟨sl, e1⟩ := en.frame T' o hTe' z
      have ne : T' ≠ T := fun q => by rw [q, hT] at z; cases z
      rw [oth T' ne, e1] at hN; cases hN
  refine hq h' ⟨⟨fun b o m n q => ?_, fun b o n q => ?_⟩, _, T', ts', _, he', by simp [hsz], h0T, hTe', hT'', h3'⟩
  · have ne : b ≠ T := fun z => by rw [z, hT] at q; cases q
    exact en'.other b o (fun z => m (hS b z)) n ((oth b ne).trans (en.other b o m n q))
  · have ne : b ≠ T := fun z => by rw [z, hT] at q; cases q
    obtain ⟨sl, e1⟩ := en.frame b o n q
    obtain ⟨sl2, e2⟩ := en'.frame b _ n ((oth b ne).trans e1)
    exact ⟨sl2, e2⟩
end
inductive Sl : List (Addr × Obj) → List (Addr × Obj) → Prop
  | nil : Sl [] []
  | cons {a : Addr} {o o' : Obj} {r r' : List (Addr × Obj)} : o'.data = o.data → Sl r r' → Sl ((a, o) :: r) ((a, o') :: r')
theorem Sl.fst {r r' : List (Addr × Obj)} (x : Sl r r') : r'.map (·.1) = r.map (·.1) := by
  induction x with
  | nil => rfl
  | cons _ _ ih => simp [ih]
theorem Sl.refl : ∀ r : List (Addr × Obj), Sl r r
  | [] => .nil
  | (_, _) :: r => .cons rfl (Sl.refl r)
theorem Sl.trans {r r' r'' : List (Addr × Obj)} (x : Sl r r') (y : Sl r' r'') : Sl r r'' := by
  induction x generalizing r'' with
  | nil => exact y
  | cons h _ ih => cases y with
    | cons h' y => exact .cons (h'.trans h) (ih y)
inductive Frs : List Env → List (Addr × Obj) → Prop
  | nil : Frs [] []
  | cons {env : Env} {L : Addr} {o : Obj} {es : Array DictEntry} {ep : Nat} {r : List Env} {c : List (Addr × Obj)} : env.frame = some L → env.scope.kind = .function → o.data = .dict es ep → Frs r c → Frs (env :: r) ((L, o) :: c)
theorem Frs.sl {l : List Env} {c c' : List (Addr × Obj)} (f : Frs l c) (x : Sl c c') : Frs l c' := by
  induction f generalizing c' with
  | nil => cases x; exact .nil
  | cons h1 h2 h3 _ ih => cases x with
    | cons h x => exact .cons h1 h2 (h.trans h3) (ih x)
theorem Frs.fst {l : List Env} {c : List (Addr × Obj)} (f : Frs l c) : l.filterMap (·.frame) = c.map (·.1) := by
  induction f with
  | nil => rfl
  | cons h1 _ _ _ ih => rw [List.filterMap_cons, h1, List.map_cons, ih]
noncomputable abbrev B0 : Heap := {}
theorem B0_none (a : Addr) : B0.get? a = none := rfl
theorem Frs.fun_ {h : Heap} {l : List Env} {c : List (Addr × Obj)} (f : Frs l c) (k : ∀ p ∈ c, h.get? p.1 = some p.2) : h.FunFrames B0 l := by
  induction f with
  | nil => trivial
  | cons h1 h2 h3 _ ih => exact ⟨by rw [h2]; decide, ⟨_, _, h1, B0_none _, k _ (.head _), fun vs q => by rw [h3] at q; cases q⟩, ih fun p hp => k p (.tail _ hp)⟩
section
variable {h₀ h h' : Heap} {L L' e dx : Addr} {ns ns' : List Str} {vs vs' : List (Option Value)} {hid hid' more rest news frs : List (Addr × Obj)} {S : List Addr} {fl : Value}
theorem Fm.selfNone (F : Fm h₀ L ns vs news h) : h₀.get? L = none := by
  (wtm_at "pc")
  obtain ⟨m, f, _⟩ := F.fr
  (wtm_at "pu")
  exact kts_self f
theorem Fm.own (F : Fm h₀ L ns vs news h) : ∃ o es ep, h.get? L = some o ∧ o.data = .dict es ep := by
  (wtm_at "pc")
  obtain ⟨m, f, _⟩ := F.fr
  (wtm_at "pu")
  (wtm_at "pc")
  obtain ⟨o, es, ep, e, d, _⟩ := f.ns
  (wtm_at "pu")
  exact ⟨o, es, ep, e, d⟩
theorem ns_data {h h' : Heap} {L : Addr} {m : Str → Option Value} {o o' : Obj} (n : h.Ns L m) (e : h.get? L = some o) (e' : h'.get? L = some o') (hd : o'.data = o.data) : h'.Ns L m := by
  (wtm_at "pc")
  obtain ⟨o1, es, ep, e1, d1, r⟩ := n
  (wtm_at "pu")
  rw [e] at e1; cases e1
  exact ⟨o', es, ep, e', hd.trans d1, r⟩
theorem Fm.after {oL oL' : Obj} (F : Fm h₀ L ns vs (hid ++ rest) h) (eL : h.get? L = some oL) (G : Fm (hideAll h (L :: hid.map (·.1))) L' ns' vs' ((L, oL') :: (hid' ++ more)) h') (hm : hid'.map (·.1) = hid.map (·.1)) (hd : oL'.data = oL.data) :
    Fm h₀ L ns vs (hid' ++ (more ++ rest)) h' := by
  (wtm_at "pc")
  obtain ⟨m, f, l⟩ := F.fr
  (wtm_at "pu")
  have up : ∀ b o, h₀.get? b = some o → (hideAll h (L :: hid.map (·.1))).get? b = some o := fun b o q => hideAll_get _ (f.keep _ _ q) fun z => by
    rcases List.mem_cons.mp z with rfl | z
    · rw [F.selfNone] at q; cases q
    · (wtm_at "pc")
      obtain ⟨p, hp, rfl⟩ := List.mem_map.mp z
      (wtm_at "pu")
      rw [(F.led p (List.mem_append_left _ hp)).2.2] at q; cases q
  have gnd := G.nd
  rw [List.map_cons, List.nodup_cons] at gnd
  have neL : ∀ p ∈ hid' ++ more, p.1 ≠ L := fun p hp q => gnd.1 (by show L ∈ _; rw [← q]; exact List.mem_map.mpr ⟨p, hp, rfl⟩)
  have fnd := F.nd
  rw [List.map_append, List.nodup_append] at fnd
  have restUp : ∀ p ∈ rest, (hideAll h (L :: hid.map (·.1))).get? p.1 = some p.2 := fun p hp => hideAll_get _ (F.led p (List.mem_append_right _ hp)).1 fun z => by
    rcases List.mem_cons.mp z with z | z
    · exact (F.led p (List.mem_append_right _ hp)).2.1 z
    · exact fnd.2.2 _ z _ (List.mem_map.mpr ⟨p, hp, rfl⟩) rfl
  refine ⟨⟨m, ⟨ns_data f.ns eL (G.get (.head _)) hd, fun b o q => G.keep _ _ (up b o q), f.above⟩, l⟩, fun p hp => ?_, ?_⟩
  · rcases List.mem_append.mp hp with hp | hp
    · refine ⟨(G.led p (.tail _ (List.mem_append_left _ hp))).1, neL p (List.mem_append_left _ hp), ?_⟩
      have : p.1 ∈ hid.map (·.1) := hm ▸ List.mem_map.mpr ⟨p, hp, rfl⟩
      (wtm_at "pc")
      obtain ⟨q, hq, e⟩ := List.mem_map.mp this
      (wtm_at "pu")
      rw [← e]; exact (F.led q (List.mem_append_left _ hq)).2.2
    · rcases List.mem_append.mp hp with hp | hp
      · have P := G.led p (.tail _ (List.mem_append_right _ hp))
        refine ⟨P.1, neL p (List.mem_append_right _ hp), ?_⟩
        cases z : h₀.get? p.1 with
        | none => rfl
        | some o => have := up _ _ z; rw [P.2.2] at this; cases this
      · have P := F.led p (List.mem_append_right _ hp)
        exact ⟨G.keep _ _ (restUp p hp), P.2⟩
  · rw [List.map_append, List.map_append] at *
    have g2 := gnd.2
    rw [List.nodup_append] at g2
    rw [List.nodup_append, List.nodup_append]
    refine ⟨g2.1, ⟨g2.2.1, fnd.2.1, fun a ha b hb e => ?_⟩, fun a ha b hb e => ?_⟩
    · (wtm_at "pc")
      obtain ⟨p, hp, rfl⟩ := List.mem_map.mp ha
      (wtm_at "pu")
      (wtm_at "pc")
      obtain ⟨q, hq, rfl⟩ := List.mem_map.mp hb
      (wtm_at "pu")
      have := (G.led p (.tail _ (List.mem_append_right _ hp))).2.2
      rw [e, restUp q hq] at this; cases this
    · rcases List.mem_append.mp hb with hb | hb
      · exact g2.2.2 a ha b hb e
      · exact fnd.2.2 a (hm ▸ ha) b hb e
theorem Fm.fly (F : Fm h₀ L ns vs (frs ++ news) h) (X : Fly S e dx fl h h') (hS : ∀ b ∈ S, b = L ∨ b ∈ frs.map (·.1) ∨ (h₀.get? b = none ∧ b ∉ news.map (·.1))) (he : e ≠ L ∧ e ∉ (frs ++ news).map (·.1) ∧ h₀.get? e = none) :
    ∃ frs', Sl frs frs' ∧ Fm h₀ L ns vs (frs' ++ news) h' := by
  (wtm_at "pc")
  obtain ⟨m, f, l⟩ := F.fr
  (wtm_at "pu")
  have fnd := F.nd
  rw [List.map_append, List.nodup_append] at fnd
  have key : ∀ r : List (Addr × Obj), (∀ p ∈ r, p ∈ frs) → ∃ r', Sl r r' ∧ ∀ p ∈ r', h'.get? p.1 = some p.2 := fun r => by
    induction r with
    | nil => exact fun _ => ⟨[], .nil, fun _ h => nomatch h⟩
    | cons p r ih =>
      intro hr
      (wtm_at "pc")
      obtain ⟨r', s', k'⟩ := ih fun q hq => hr q (.tail _ hq)
      (wtm_at "pu")
      have P := F.led p (List.mem_append_left _ (hr p (.head _)))
      obtain ⟨sl, e1⟩ := X.ent.frame p.1 p.2 (fun z => he.2.1 (z ▸ List.mem_map.mpr ⟨p, List.mem_append_left _ (hr p (.head _)), rfl⟩)) P.1
      refine ⟨(p.1, { p.2 with slots := sl }) :: r', .cons rfl s', fun q hq => ?_⟩
      rcases List.mem_cons.mp hq with rfl | hq
      · exact e1
      · exact k' q hq
  (wtm_at "pc")
  obtain ⟨frs', s, k⟩ := key frs fun _ h => h
  (wtm_at "pu")
  (wtm_at "pc")
  obtain ⟨oL, es, ep, eL, dL⟩ := F.own
  (wtm_at "pu")
  obtain ⟨slL, eL'⟩ := X.ent.frame L oL (Ne.symm he.1) eL
  refine ⟨frs', s, ⟨m, ⟨ns_data f.ns eL eL' rfl, fun b o q => ?_, f.above⟩, l⟩, fun p hp => ?_, ?_⟩
  · refine X.ent.other b o (fun z => ?_) (fun z => by rw [z, he.2.2] at q; cases q) (f.keep _ _ q)
    rcases hS b z with rfl | z | z
    · rw [F.selfNone] at q; cases q
    · (wtm_at "pc")
      obtain ⟨p, hp, rfl⟩ := List.mem_map.mp z
      (wtm_at "pu")
      rw [(F.led p (List.mem_append_left _ hp)).2.2] at q; cases q
    · rw [z.1] at q; cases q
  · rcases List.mem_append.mp hp with hp | hp
    · have : p.1 ∈ frs.map (·.1) := s.fst ▸ List.mem_map.mpr ⟨p, hp, rfl⟩
      (wtm_at "pc")
      obtain ⟨q, hq, e⟩ := List.mem_map.mp this
      (wtm_at "pu")
      have P := F.led q (List.mem_append_left _ hq)
      rw [e] at P
      exact ⟨k p hp, P.2⟩
    · have P := F.led p (List.mem_append_right _ hp)
      refine ⟨X.ent.other _ _ (fun z => ?_) (fun z => he.2.1 (z ▸ List.mem_map.mpr ⟨p, List.mem_append_right _ hp, rfl⟩)) P.1, P.2⟩
      rcases hS _ z with z | z | z
      · exact P.2.1 z
      · exact fnd.2.2 _ z _ (List.mem_map.mpr ⟨p, hp, rfl⟩) rfl
      · exact z.2 (List.mem_map.mpr ⟨p, hp, rfl⟩)
  · rw [List.map_append, s.fst, ← List.map_append]; exact F.nd
end
noncomputable abbrev rdSt : Stmt := (fnB (st 72)).getD 4 (.Pass ⟨0, 0, 0, 0⟩)
noncomputable abbrev rdFn (cc : Addr) (doc pm : Value) (c' : Addr) (ctv : Value) : Obj := fnMade "read" "law.<locals>.read" (fnA rdSt) (fnB rdSt) (fnS rdSt) [("handed", cc)] doc pm c' ctv
structure RdAt (h : Heap) (f cc H : Addr) : Prop where
  fn : ∃ doc pm c' ctv, h.get? f = some (rdFn cc doc pm c' ctv) ∧ h.CodeRec (.ref c') "law.<locals>.read"
  cell : h.IsCell cc (some (.ref H))
theorem RdAt.ext {h h' : Heap} {f cc H : Addr} (a : RdAt h f cc H) (k : Ext h h') : RdAt h' f cc H := by
  obtain ⟨⟨doc, pm, c', ctv, e, ⟨c, oc, fs, t, e1, e2, e3, e4⟩⟩, ⟨o, e5, e6⟩⟩ := a
  exact ⟨⟨doc, pm, c', ctv, k _ _ e, ⟨c, oc, fs, t, e1, k _ _ e2, e3, e4⟩⟩, ⟨o, k _ _ e5, e6⟩⟩
theorem fiRd : Fi (fnS rdSt) ["tag", "given"] [] [("TableFault", .ref 61)] [("dict", .type "dict")] := Fi.of (by kernel_rfl)
section
variable {w : World} {A : Around} {E : Value → Shared → Prop} {hb h : Heap} {g : Array GenState} {d : Drawn} {tk : Nat} {os : OsState} {mg mb : Str → Option Value} {mean : ExcName → Option Value}
  {L f cc H t : Addr} {t₀ : Tok} {tag : Str} {kvs : List (Str × Value)} {zs : List Value} {n : Nat} {ns : List Str} {vs : List (Option Value)} {frs rest : List (Addr × Obj)} {envC : Env} {outer : List Env}
theorem read_c {Q : Value → Shared → Prop} (W : Wd w mg mb mean hb) (F : Fm hb L ns vs ((frs ++ [(H, lsO zs n)]) ++ rest) h) (R : Rm 4 A) (hh : A.handled = none) (hA : A.frames = some (envC :: outer)) (hf : envC.frame = some L) (hkC : envC.scope.kind = .function) (hFr : Frs outer frs)
    (hrd : RdAt hb f cc H) (dk : Dk w hb t kvs) (hk : kvs.length ≤ 1000) (hz : zs.length ≤ 1000)
    (hE : ∀ h5 h6 n' c o e dx es k S tk' t₁ t₇, Fm hb L ns vs ((frs ++ [(H, lsO (zs ++ [.ref c]) n')]) ++ ([(c, o), (dx, dictOf es k)] ++ rest)) h5 → o.IsDictOf (kS w) kvs → (c == sysModules) = false → Fly S e dx .none h5 h6 →
      (∀ b ∈ S, b = L ∨ b ∈ frs.map (·.1) ∨ (hb.get? b = none ∧ b ∉ (([(H, lsO (zs ++ [.ref c]) n')]) ++ ([(c, o), (dx, dictOf es k)] ++ rest)).map (·.1))) → (∀ b ∈ (envC :: outer).filterMap (·.frame), b ∈ S) →
      (e ≠ L ∧ e ∉ ((frs ++ [(H, lsO (zs ++ [.ref c]) n')]) ++ ([(c, o), (dx, dictOf es k)] ++ rest)).map (·.1) ∧ hb.get? e = none) → Rep [("what", .str "never read" t₁), ("at", .int 7 t₇)] es → E (.ref e) ⟨h6, g, d, tk', os⟩) :
    wpAny (Mo w) A (call (.ref f) [.str tag t₀, .ref t]) Q E ⟨h, g, d, tk, os⟩ := by
  obtain ⟨⟨doc, pm, c', ctv, ef, hcr⟩, hcell⟩ := hrd
  (wtm_at "pc")
  obtain ⟨oL, esL, epL, eL, dL⟩ := F.own
  (wtm_at "pu")
  have kb : Ext hb h := F.keep
  refine wpAny_call (ks_codeAny_call_defAt (a := f) (o := rdFn cc doc pm c' ctv) (body := fnB rdSt) (binds := [("tag", .str tag t₀), ("given", .ref t)]) R.room (kb _ _ ef) rfl (W.t.nolimit.keeps kb) ?_ rfl (BindsTo.of_eq rfl) (of_decide_eq_true (by kernel_rfl)) (fun y hy => ?_) (fun h₁ hns hk₁ => ?_))
  · (wtm_at "pc")
    obtain ⟨c, oc, fs, t, e1, e2, e3, e4⟩ := hcr
    (wtm_at "pu")
    exact ⟨c, oc, fs, t, e1, kb _ _ e2, e3, e4⟩
  · simp only [List.mem_cons, List.not_mem_nil, or_false] at hy
    rcases hy with rfl | rfl <;> kernel_rfl
  refine PySem.wpAt_of_wpAny ?_
  have fnd := F.nd
  rw [List.map_append, List.nodup_append] at fnd
  have hall : ∀ p ∈ (L, oL) :: (frs ++ [(H, lsO zs n)]), h.get? p.1 = some p.2 := fun p hp => by
    rcases List.mem_cons.mp hp with rfl | hp
    · exact eL
    · exact (F.led p (List.mem_append_left _ hp)).1
  have G : Fm (hideAll h (L :: (frs ++ [(H, lsO zs n)]).map (·.1))) h.objs.size ["tag", "given"] [some (.str tag t₀), some (.ref t)] ((L, oL) :: (frs ++ [(H, lsO zs n)])) h₁ := by
    refine ⟨⟨_, ⟨hns, fun b o e => hk₁ b o (of_hideAll _ e), Nat.le_of_eq (hideAll_size _ _)⟩, fun i y z hi hv => ?_⟩, fun p hp => ?_, ?_⟩
    · match i, hi, hv with
      | 0, hi, hv => cases hi; cases hv; rfl
      | 1, hi, hv => cases hi; cases hv; rfl
      | n + 2, hi, _ => simp at hi
    · exact ⟨hk₁ _ _ (hall p hp), Nat.ne_of_lt (Heap.lt_size (hall p hp)), hideAll_none _ (List.mem_map_of_mem (f := (·.1)) hp)⟩
    · rw [List.map_cons, List.nodup_cons]
      refine ⟨fun q => ?_, fnd.1⟩
      (wtm_at "pc")
      obtain ⟨p, hp, e⟩ := List.mem_map.mp q
      (wtm_at "pu")
      exact (F.led p (List.mem_append_left _ hp)).2.1 e
  have up : Ext hb (hideAll h (L :: (frs ++ [(H, lsO zs n)]).map (·.1))) := fun b o q => hideAll_get _ (kb _ _ q) fun z => by
    rcases List.mem_cons.mp z with rfl | z
    · rw [F.selfNone] at q; cases q
    · (wtm_at "pc")
      obtain ⟨p, hp, rfl⟩ := List.mem_map.mp z
      (wtm_at "pu")
      rw [(F.led p (List.mem_append_left _ hp)).2.2] at q; cases q
  have W := W.keeps up
  have F0 := F
  clear F
  have F := G
  have Y := fiRd
  have en : En (callEnv (fnX "read" "law.<locals>.read" (fnA rdSt) (fnB rdSt) (fnS rdSt) [("handed", cc)] Value.none Value.none doc pm none (Value.ref c') ctv) h.objs.size f) h.objs.size (fnS rdSt) [("handed", cc)] := ⟨rfl, rfl, rfl, rfl, rfl⟩
  refine wpAny_execs_cons ?_
  repeat (wtm_at "ev")
  refine r_free en Y (by kernel_rfl) (show List.lookup ("handed" : Str) [("handed", cc)] = some cc by kernel_rfl) (by obtain ⟨o, e, z⟩ := hcell; exact ⟨o, F.keep _ _ (up _ _ e), z⟩) (by decide +kernel) (by decide +kernel) ?_
  have mH : (H, lsO zs n) ∈ (L, oL) :: (frs ++ [(H, lsO zs n)]) := .tail _ (List.mem_append_right _ (.head _))
  refine BMeth.append (F.get mH) ?_
  repeat (wtm_at "ev")
  refine r_copyD W F ((dk.ext up).ext F.keep) hk fun c o h2 F2 hd lo => ?_
  repeat (wtm_at "ev")
  clear F
  have F3 := F2.perm (news' := (H, lsO zs n) :: (c, o) :: (L, oL) :: frs) (List.perm_append_comm (l₁ := (c, o) :: (L, oL) :: frs) (l₂ := [(H, lsO zs n)]))
  refine r_append F3 (by lia) fun h4 n' F => ?_
  repeat (wtm_at "ev")
  rw [arm_exec_Raise]
  refine wpAny_bind (wpAny_standAt (raise_x (by exact hh) (wpAny_bind ?_)))
  repeat (wtm_at "ev")
  refine exc_call (W.keeps F.keep) R.deep.le fun h5 x dx es k fs' kx e1 e2 e3 e4 ne rep hfs tk' => ?_
  have F5 := F.fresh (cells := [(dx, dictOf es k), (x, exO (some dx) fs')]) kx (fun p hp => by
    rcases List.mem_cons.mp hp with rfl | hp
    · exact ⟨e2, e4⟩
    · obtain rfl := List.mem_singleton.mp hp; exact ⟨e1, e3⟩) (by simp [ne])
  clear F
  refine wpAny_bind (wpAny_standAt (wpAny_pure ⟨x, some dx, fs', rfl, W.k.keeps F5.keep, e1, hfs.2, ?_⟩))
  have mL : (L, oL) ∈ [(dx, dictOf es k), (x, exO (some dx) fs')] ++ ((H, lsO (zs ++ [.ref c]) n') :: (c, o) :: (L, oL) :: frs) := .tail _ (.tail _ (.tail _ (.tail _ (.head _))))
  have mF : ∀ p ∈ frs, p ∈ [(dx, dictOf es k), (x, exO (some dx) fs')] ++ ((H, lsO (zs ++ [.ref c]) n') :: (c, o) :: (L, oL) :: frs) := fun p hp => .tail _ (.tail _ (.tail _ (.tail _ (.tail _ hp))))
  have hFr2 : Frs (envC :: outer) ((L, oL) :: frs) := .cons hf hkC dL hFr
  (wtm_at "pc")
  obtain ⟨o4, es4, ep4, eo4, d4⟩ := F5.own
  (wtm_at "pu")
  have hfu : h5.FunFrames B0 (callEnv (fnX "read" "law.<locals>.read" (fnA rdSt) (fnB rdSt) (fnS rdSt) [("handed", cc)] Value.none Value.none doc pm none (Value.ref c') ctv) h.objs.size f :: envC :: outer) :=
    Frs.fun_ (c := (h.objs.size, o4) :: (L, oL) :: frs) (.cons rfl (by kernel_rfl) d4 hFr2) (fun p hp => by
      rcases List.mem_cons.mp hp with rfl | hp
      · exact eo4
      · rcases List.mem_cons.mp hp with rfl | hp
        · exact F5.get mL
        · exact F5.get (mF p hp))
  refine leave_x (Around.frames_deeper hA) hfu rfl e1 hfs.2 fun h6 fly => ?_
  have nd5 := F5.nd
  have F6 := F5.drop (news' := [(dx, dictOf es k)] ++ ((H, lsO (zs ++ [.ref c]) n') :: (c, o) :: (L, oL) :: frs)) (.cons_cons _ (.cons _ (List.Sublist.refl _)))
  have F7 := F6.perm (news' := (L, oL) :: ((frs ++ [(H, lsO (zs ++ [Value.ref c]) n')]) ++ [(c, o), (dx, dictOf es k)])) (by
    have a : ([(dx, dictOf es k)] ++ ((H, lsO (zs ++ [Value.ref c]) n') :: (c, o) :: (L, oL) :: frs)).Perm (((L, oL) :: frs) ++ [(dx, dictOf es k), (H, lsO (zs ++ [Value.ref c]) n'), (c, o)]) := List.perm_append_comm (l₁ := [(dx, dictOf es k), (H, lsO (zs ++ [Value.ref c]) n'), (c, o)]) (l₂ := (L, oL) :: frs)
    have b : [(dx, dictOf es k), (H, lsO (zs ++ [Value.ref c]) n'), (c, o)].Perm [(H, lsO (zs ++ [Value.ref c]) n'), (c, o), (dx, dictOf es k)] := .trans (.swap _ _ _) (.cons _ (.swap _ _ _))
    have e : (L, oL) :: ((frs ++ [(H, lsO (zs ++ [Value.ref c]) n')]) ++ [(c, o), (dx, dictOf es k)]) = ((L, oL) :: frs) ++ [(H, lsO (zs ++ [Value.ref c]) n'), (c, o), (dx, dictOf es k)] := by simp
    rw [e]
    exact a.trans (b.append_left _))
  have F8 := F0.after eL F7 (by simp) rfl
  have ledx := F5.led (x, exO (some dx) fs') (.tail _ (.head _))
  have hx0 : hb.get? x = none := by
    cases z : hb.get? x with
    | none => rfl
    | some q => have := ledx.2.2; rw [up _ _ z] at this; cases this
  have restUp : ∀ p ∈ rest, (hideAll h (L :: (frs ++ [(H, lsO zs n)]).map (·.1))).get? p.1 = some p.2 := fun p hp => hideAll_get _ (F0.led p (List.mem_append_right _ hp)).1 fun z => by
    rcases List.mem_cons.mp z with z | z
    · exact (F0.led p (List.mem_append_right _ hp)).2.1 z
    · exact fnd.2.2 _ z _ (List.mem_map.mpr ⟨p, hp, rfl⟩) rfl
  have five : ∀ p ∈ (frs ++ [(H, lsO (zs ++ [Value.ref c]) n')]) ++ [(c, o), (dx, dictOf es k)], p ∈ [(dx, dictOf es k)] ++ ((H, lsO (zs ++ [Value.ref c]) n') :: (c, o) :: (L, oL) :: frs) := fun p hp => by
    simp only [List.mem_append, List.mem_cons, List.not_mem_nil, or_false] at hp ⊢
    rcases hp with (hp | hp) | hp | hp <;> simp [hp]
  have xnot : ∀ p ∈ [(dx, dictOf es k)] ++ ((H, lsO (zs ++ [Value.ref c]) n') :: (c, o) :: (L, oL) :: frs), p.1 ≠ x := fun p hp q => by
    have nd := nd5
    simp only [List.cons_append, List.nil_append, List.map_cons, List.nodup_cons] at nd
    rcases List.mem_cons.mp hp with rfl | hp
    · exact ne q
    · exact nd.2.1 (by rw [← q]; exact List.mem_map.mpr ⟨p, hp, rfl⟩)
  refine hE h5 h6 n' c o x dx es k _ tk' _ _ F8 hd lo fly (fun b hb' => ?_) (fun b hb' => ?_) ⟨fun q => xnot (L, oL) (by simp) q.symm, fun q => ?_, hx0⟩ rep
  · rcases List.mem_cons.mp hb' with rfl | hb'
    · refine .inr (.inr ⟨?_, fun q => ?_⟩)
      · cases z : hb.get? h.objs.size with
        | none => rfl
        | some q => exact absurd (Heap.lt_size (kb _ _ z)) (Nat.lt_irrefl _)
      · (wtm_at "pc")
        obtain ⟨p, hp, e⟩ := List.mem_map.mp q
        (wtm_at "pu")
        rcases List.mem_append.mp hp with hp | hp
        · exact (F6.led p (five p (List.mem_append_left _ (List.mem_append_right _ hp)))).2.1 e
        · rcases List.mem_append.mp hp with hp | hp
          · exact (F6.led p (five p (List.mem_append_right _ hp))).2.1 e
          · have := Heap.lt_size (F0.led p (List.mem_append_right _ hp)).1
            rw [e] at this; exact Nat.lt_irrefl _ this
    · rw [show List.filterMap (fun x => x.frame) (envC :: outer) = ((L, oL) :: frs).map (·.1) from hFr2.fst] at hb'
      rcases List.mem_cons.mp hb' with rfl | hb'
      · exact .inl rfl
      · exact .inr (.inl hb')
  · exact .tail _ hb'
  · (wtm_at "pc")
    obtain ⟨p, hp, e⟩ := List.mem_map.mp q
    (wtm_at "pu")
    rw [← List.append_assoc] at hp
    rcases List.mem_append.mp hp with hp | hp
    · exact xnot p (five p hp) e
    · have := restUp p hp
      rw [e, ledx.2.2] at this; cases this
end
namespace X
theorem slot_be_ga : Slot "BaseException" "__getattribute__" "BaseException.__getattribute__" := .of (owner := "BaseException") (n := "__getattribute__") (by rw [typeLookup_type, builtinLookup_eq_fast]; kernel_rfl) (by decide +kernel) (by decide +kernel) (by decide +kernel)
  (by first | exact .inl (by decide +kernel) | exact .inr (by decide +kernel)) (by rw [isSubtype_type]; kernel_rfl)
theorem entry_be_ga : entryFor table "BaseException.__getattribute__" = some Builtin.«object.__getattribute__» := entryFor_alias (id' := "object.__getattribute__") (by kernel_rfl) (by decide +kernel) (by decide +kernel) (by kernel_rfl)
theorem args_be_ga (a b : Value) : argsOk "BaseException.__getattribute__" ⟨[a, b], []⟩ := by unfold argsOk; kernel_rfl
theorem kind_be_ga : builtinKind "BaseException.__getattribute__" = some .slot := by decide +kernel
theorem split_be_ga : splitId "BaseException.__getattribute__" = some ("BaseException", "__getattribute__") := by decide +kernel
theorem find_ga (P : Params) : findIn (K P) (.ref 61) "__getattribute__" = some (some (.builtin "BaseException.__getattribute__")) := by kernel_rfl
theorem find_gattr (P : Params) : findIn (K P) (.ref 61) "__getattr__" = some none := by kernel_rfl
theorem hasd (P : Params) : hasDictIn (K P) 61 = true := by kernel_rfl
end X
section
variable {w : World} {M : Model} {A : Around} {E : Value → Shared → Prop} {h₀ B h : Heap} {g : Array GenState} {d : Drawn} {t tk : Nat} {os : OsState} {L e T dx : Addr} {fs : Array Value} {env : Env} {outer : List Env} {s : Shared} {ns : List Str} {vs : List (Option Value)} {news : List (Addr × Obj)} {oe : Obj} {nm : Str} {v : Value} {es : List DictEntry} {n : Nat}
theorem r_getX {as : List (Str × Value)} {ex : Bool} {Q : Value → Shared → Prop} (X0 : (K w.params).In h) (he : h.get? e = some (exO (some dx) fs)) (hd : h.get? dx = some (dictOf es n)) (r : Rep as es) (hl : Has as nm v) (hv : handedIn v = true) (ht : findIn (K w.params) (.ref 61) nm = some none)
    (hq : Q v ⟨h, g, d, t + 1, os⟩) : wpAny (Mo w) A (getAttr (.ref e) nm ex) Q E ⟨h, g, d, t, os⟩ := by
  have I := exc_instD he hd
  have L0 := I.type (M := Mo w)
  have L1 := looks_find (M := Mo w) X0 I (name := nm) (findObj_own (X.hasd _) ht (by rfl) (by rw [lookIn_dict, r.getL, hl.lookup]))
  unfold getAttr getAttrBy
  refine wpAny_bind (wpAny_mkText (wpAny_holding (wpAny_bind (L0.at (wpAny_bind ((looks_findIn X0 (X.find_ga _)).at ?_))))))
  show wpAny _ _ (getAttrByItsOwn (.ref e) (.str nm t) (.ref 61) (.builtin "BaseException.__getattribute__") true ex) _ _ _
  unfold getAttrByItsOwn hookBefore callGetattribute boundAndCalled
  rw [if_pos (by rfl)]
  refine wpAny_bind ((looks_findIn X0 (X.find_gattr _)).at ?_)
  refine wpAny_bind (wpAny_attempt (wpAny_holding ?_))
  rw [if_neg (by simp [onTheHeap])]
  refine wpAny_bind (wpAny_of_eq (X.slot_be_ga.bind _) ?_)
  have sub : Looks (Mo w) h (isInstance (.ref e) (.type "BaseException")) true := L0.andThen (looks_mroIn X0 (by kernel_rfl))
  refine wpAny_call (codeAny_call_builtin X.slot_be_ga.plain X.entry_be_ga (@check_slot (Mo w) _ _ ⟨h, g, d, t + 1, os⟩ "BaseException.__getattribute__" "BaseException" "__getattribute__" (.ref e) [.str nm t] [] _ X.kind_be_ga X.split_be_ga sub (X.args_be_ga (.ref e) (.str nm t)) ?_))
  unfold Builtin.«object.__getattribute__»
  refine wpAny_bind (wpAny_of_eq (a := (Value.ref e, [Value.str nm t])) (by rfl) ?_)
  (try dsimp only)
  refine wpAny_bind (wpAny_of_eq (a := nm) (by rfl) (wpAny_bind (L0.at (wpAny_bind (L1.at ?_)))))
  refine wpAny_pure ?_
  show wpAny _ _ (handedOut v) _ _ _
  rw [handedOut_of hv]; exact wpAny_pure hq
theorem Fm.add (F : Fm h₀ L ns vs news h) (he : h.get? e = some oe) (h1 : e ≠ L) (h2 : h₀.get? e = none) (h3 : e ∉ news.map (·.1)) : Fm h₀ L ns vs ((e, oe) :: news) h :=
  ⟨F.fr, fun p hp => by
    rcases List.mem_cons.mp hp with rfl | hp
    · exact ⟨he, h1, h2⟩
    · exact F.led p hp, by rw [List.map_cons, List.nodup_cons]; exact ⟨h3, F.nd⟩⟩
theorem Rm.mark {k : Nat} {x : Option Value} (r : Rm k A) : Rm k (A.mark x) := ⟨r.dep, r.uni⟩
variable {cl : List (Str × Addr)} {cs : Scope} {cns : List Str} {gs bs : List (Str × Value)} {pos p' : Pos} {x : Str}
theorem r_callL {f : Addr} {as : List Expr} {e : Expr} {Q : Value → Shared → Prop} (en : En env L cs cl) (I : Fi cs ns cns gs bs) (F : Fm h₀ L ns vs news h) (l : Loc ns vs x (.ref f)) (X : FnAt f h)
    (hq : wpAny (Mo w) A (spliced (backTo pos (starEach (e :: as) env))) (fun ws s₁ => FnAt f s₁.heap ∧ wpAny (Mo w) A (call (.ref f) ws) Q E s₁) E ⟨h, g, d, t, os⟩)
    (he : starEach (e :: as) env = (false, eval e env) :: starEach as env := by rfl)
    (hp : (backTo pos (starEach as env)).any (·.1) = false := by rfl) :
    wpAny (Mo w) A (eval (.Call (.Name x p') (e :: as) [] pos) env) Q E ⟨h, g, d, t, os⟩ :=
  wpAny_Call_NameR (r_loc en I F l (callWith_F (first := []) X hq he hp))
theorem r_unas {i : Nat} {Q : Unit → Shared → Prop} (en : En env L cs cl) (I : Fi cs ns cns gs bs) (F : Fm h₀ L ns vs news h) (hi : ns[i]? = some x) (hlt : i < vs.length)
    (hq : ∀ h' vs' tk', Fm h₀ L ns vs' news h' → Heap.SameBut L h h' → Q () ⟨h', g, d, tk', os⟩) : wpAny (Mo w) A (do bindName env x .none; unbindBehindTheSuite env x pos) Q E ⟨h, g, d, t, os⟩ := by
  refine wpAny_bind (wpAny_bindName (r_stI en I F hi fun h1 F1 s1 => ?_))
  unfold unbindBehindTheSuite
  refine wpAny_onRaise ?_
  (wtm_at "pc")
  obtain ⟨m, f, l⟩ := F1.fr
  (wtm_at "pu")
  have hv : m x = some .none := l i x .none hi (by rw [List.getElem?_set_self hlt])
  refine wpAny_unbindName_local (en.of (I.loc x (List.mem_of_getElem? hi)).1) (by rw [en.lo]; exact f.ns) hv (by rw [en.kind I]; rfl) fun h2 u hn hs => ?_
  rw [en.lo] at hn hs
  refine hq _ (vs.set i none) _ ⟨⟨_, f.set hn hs, fun j y z hj hz => ?_⟩, F1.led.set hs, F1.nd⟩ (s1.trans hs)
  have ne : j ≠ i := fun q => by
    subst q
    rw [List.getElem?_set_self hlt] at hz; cases hz
  rw [List.getElem?_set_ne (Ne.symm ne)] at hz
  have : y ≠ x := fun q => ne (getElem?_inj_of_nodup I.nd hj (q ▸ hi))
  simp only [this, if_false]
  exact l j y z hj (by rw [List.getElem?_set_ne (Ne.symm ne)]; exact hz)
end
structure FN (news : List (Addr × Obj)) (ys : List Value) (fs : List (Str × Str × Int)) : Prop where
  len : ys.length = fs.length
  at_ : ∀ (i : Nat) (v : Value) (f : Str × Str × Int), ys[i]? = some v → fs[i]? = some f → ∃ x dx es n t1 t2 t3, v = .ref x ∧ (x, instObj 456 dx) ∈ news ∧ (dx, dictOf es n) ∈ news ∧ Rep [("tag", .str f.1 t1), ("what", .str f.2.1 t2), ("at", .int f.2.2 t3)] es
theorem FN.nil {news : List (Addr × Obj)} : FN news [] [] := ⟨rfl, fun i v f e => by simp at e⟩
theorem FN.mono {news news' : List (Addr × Obj)} {ys : List Value} {fs : List (Str × Str × Int)} (a : FN news ys fs) (k : ∀ p ∈ news, p ∈ news') : FN news' ys fs :=
  ⟨a.len, fun i v f e1 e2 => by
    (wtm_at "pc")
    obtain ⟨x, dx, es, n, t1, t2, t3, e, m1, m2, r⟩ := a.at_ i v f e1 e2
    (wtm_at "pu")
    exact ⟨x, dx, es, n, t1, t2, t3, e, k _ m1, k _ m2, r⟩⟩
theorem FN.append {news : List (Addr × Obj)} {ys ys' : List Value} {fs fs' : List (Str × Str × Int)} (a : FN news ys fs) (b : FN news ys' fs') : FN news (ys ++ ys') (fs ++ fs') := by
  refine ⟨by simp [a.len, b.len], fun i v f e1 e2 => ?_⟩
  by_cases q : i < ys.length
  · rw [List.getElem?_append_left q] at e1
    rw [List.getElem?_append_left (by rw [← a.len]; exact q)] at e2
    exact a.at_ i v f e1 e2
  · rw [List.getElem?_append_right (by lia)] at e1
    rw [List.getElem?_append_right (by rw [← a.len]; lia), ← a.len] at e2
    exact b.at_ _ v f e1 e2
theorem FN.one {news : List (Addr × Obj)} {x dx : Addr} {es : List DictEntry} {n : Nat} {t1 t2 t3 : Tok} {f : Str × Str × Int} (m1 : (x, instObj 456 dx) ∈ news) (m2 : (dx, dictOf es n) ∈ news) (r : Rep [("tag", .str f.1 t1), ("what", .str f.2.1 t2), ("at", .int f.2.2 t3)] es) : FN news [.ref x] [f] :=
  ⟨rfl, fun i v g e1 e2 => by
    match i, e1, e2 with
    | 0, e1, e2 => cases e1; cases e2; exact ⟨_, _, _, _, _, _, _, rfl, m1, m2, r⟩
    | i + 1, e1, _ => simp at e1⟩
noncomputable def Cps (w : World) (news : List (Addr × Obj)) (zs : List Value) (ps : List (Str × List UInt8)) : Prop := ∀ z ∈ zs, ∃ c o kvs, z = .ref c ∧ (c, o) ∈ news ∧ o.IsDictOf (kS w) kvs ∧ (c == sysModules) = false ∧ Bys kvs ps
theorem Cps.mono {w : World} {news news' : List (Addr × Obj)} {zs : List Value} {ps : List (Str × List UInt8)} (a : Cps w news zs ps) (k : ∀ p ∈ news, p ∈ news') : Cps w news' zs ps := fun z hz => let ⟨c, o, kvs, e, m, r⟩ := a z hz; ⟨c, o, kvs, e, k _ m, r⟩
theorem Cps.append {w : World} {news : List (Addr × Obj)} {zs zs' : List Value} {ps : List (Str × List UInt8)} (a : Cps w news zs ps) (b : Cps w news zs' ps) : Cps w news (zs ++ zs') ps := fun z hz => (List.mem_append.mp hz).elim (a z) (b z)
noncomputable def triedF (ps : List (Str × List UInt8)) (tag : Str) : List (Str × Str × Int) := if tag ∈ ps.map (·.1) then [(tag, "cannot be read", 7)] else []
section
variable {w : World} {A : Around} {E : Value → Shared → Prop} {hb h : Heap} {g : Array GenState} {d : Drawn} {tk : Nat} {os : OsState} {mg mb : Str → Option Value} {mean : ExcName → Option Value}
  {L rd cc H Fd t : Addr} {t₀ : Tok} {tag : Str} {kvs : List (Str × Value)} {ps : List (Str × List UInt8)} {zs ys : List Value} {n m : Nat} {ns : List Str} {vs : List (Option Value)} {frs rest : List (Addr × Obj)} {envC : Env} {outer : List Env}
theorem tried_c {Q : Value → Shared → Prop} (W : Wd w mg mb mean hb) (F : Fm hb L ns vs ((frs ++ [(H, lsO zs n), (Fd, lsO ys m)]) ++ rest) h) (R : Rm 6 A) (hh : A.handled = none) (hA : A.frames = some (envC :: outer)) (hf : envC.frame = some L) (hkC : envC.scope.kind = .function) (hFr : Frs outer frs)
    (hrd : RdAt hb rd cc H) (dk : Dk w hb t kvs) (hB : Bys kvs ps) (hk : kvs.length ≤ 1000) (hz : zs.length ≤ 1000) (hy : ys.length ≤ 1000)
    (hq : ∀ h' frs' zs' ys' n' m' more tk', Sl frs frs' → Fm hb L ns vs ((frs' ++ [(H, lsO (zs ++ zs') n'), (Fd, lsO (ys ++ ys') m')]) ++ (more ++ rest)) h' → Cps w more zs' ps → zs'.length ≤ 1 → FN more ys' (triedF ps tag) → Q .none ⟨h', g, d, tk', os⟩) :
    wpAny (Mo w) A (call (.ref 563) [.str tag t₀, .ref t, .ref rd, .ref Fd]) Q E ⟨h, g, d, tk, os⟩ := by
  (wtm_at "pc")
  obtain ⟨oL, esL, epL, eL, dL⟩ := F.own
  (wtm_at "pu")
  have kb : Ext hb h := F.keep
  have fnd := F.nd
  rw [List.map_append, List.nodup_append] at fnd
  refine wpAny_call (callF (news := (L, oL) :: (frs ++ [(H, lsO zs n), (Fd, lsO ys m)])) (df_tried w) W kb (fun p hp => ?_) ?_ R.room rfl fun L₃ h₁ tk₁ W₃ up F₃ => ?_)
  · rcases List.mem_cons.mp hp with rfl | hp
    · exact ⟨eL, F.selfNone⟩
    · exact ⟨(F.led p (List.mem_append_left _ hp)).1, (F.led p (List.mem_append_left _ hp)).2.2⟩
  · rw [List.map_cons, List.nodup_cons]
    refine ⟨fun q => ?_, fnd.1⟩
    (wtm_at "pc")
    obtain ⟨p, hp, e⟩ := List.mem_map.mp q
    (wtm_at "pu")
    exact (F.led p (List.mem_append_left _ hp)).2.1 e
  have Y := (df_tried w).fi
  have F0 := F
  clear F
  have F := F₃
  have W := W₃
  (wtm_at "f0")
  rw [show (L, oL) :: (frs ++ [(H, lsO zs n), (Fd, lsO ys m)]) = (((L, oL) :: frs) ++ [(H, lsO zs n)]) ++ [(Fd, lsO ys m)] by simp] at F
  refine wpAny_mono (E := fun _ _ => False) ?_ (fun _ _ q => q) (fun _ _ q => q.elim)
  have back : ∀ h' oL' frs' zs' ys' n' m' more tk' vs', Sl frs frs' → oL'.data = oL.data → Fm (hideAll h (((L, oL) :: (frs ++ [(H, lsO zs n), (Fd, lsO ys m)])).map (·.1))) L₃ ["tag", "tables", "read", "found", "fault"] vs' ((L, oL') :: ((frs' ++ [(H, lsO (zs ++ zs') n'), (Fd, lsO (ys ++ ys') m')]) ++ more)) h' →
      Cps w more zs' ps → zs'.length ≤ 1 → FN more ys' (triedF ps tag) → Q .none ⟨h', g, d, tk', os⟩ := fun h' oL' frs' zs' ys' n' m' more tk' vs' s hd G a b c =>
    hq _ _ _ _ _ _ _ _ s (F0.after eL G (by simp [s.fst]) hd) a b c
  have dk3 := dk.ext up
  refine wpAny_execs_cons ?_
  repeat (wtm_at "ev")
  refine r_notInD (dk3.ext F.keep) ?_
  repeat (wtm_at "ev")
  have hmem : (valueAt kvs tag).isSome = decide (tag ∈ ps.map (·.1)) := by
    by_cases q : tag ∈ ps.map (·.1)
    · (wtm_at "pc")
      obtain ⟨p, hp, e⟩ := List.mem_map.mp q
      (wtm_at "pu")
      obtain ⟨t', e'⟩ := hB.valueAt (k := tag) (l := p.2) (by rw [← hB.keys]; exact dk.nodup) (by rw [← e]; exact hp)
      rw [e', decide_eq_true q]; rfl
    · rw [hB.none_ q, decide_eq_false q]; rfl
  rw [hmem]
  refine r_if (fun c => ?_) fun c => ?_
  · have c' : tag ∉ ps.map (·.1) := by simpa using c
    repeat (wtm_at "ev")
    refine back _ oL frs [] [] n m [] _ _ (Sl.refl _) rfl (by simpa using F) (fun _ h => nomatch h) (by simp) ?_
    unfold triedF; rw [if_neg c']; exact FN.nil
  · have c' : tag ∈ ps.map (·.1) := by simpa using c
    repeat (wtm_at "ev")
    refine wpAny_Try_except ?_
    repeat (wtm_at "ev")
    have hrd3 := hrd.ext up
    refine r_callL En.fn Y F (by wtm_at "loc") (by obtain ⟨⟨doc, pm, c', ctv, e, _⟩, _⟩ := hrd3; exact ⟨_, _, _, _, F.keep _ _ e⟩) ?_
    repeat (wtm_at "ev")
    have hFr3 : Frs (envC :: outer) ((L, oL) :: frs) := .cons hf hkC dL hFr
    refine ⟨by obtain ⟨⟨doc, pm, c', ctv, e, _⟩, _⟩ := hrd3; exact ⟨_, _, _, _, F.keep _ _ e⟩, ?_⟩
    refine read_c W F R.deep.le (by exact hh) (Around.frames_deeper hA) rfl (by kernel_rfl) hFr3 hrd3 dk3 hk hz fun h5 h6 n' c o e dx es k S tk' t₁ t₇ F5 hd lo fly hS hS2 he rep => ?_
    (wtm_at "pc")
    obtain ⟨o5, es5, ep5, eo5, d5⟩ := F5.own
    (wtm_at "pu")
    have hfu5 : h5.FunFrames B0 (envOf "tried" (fnS (st 66)) L₃ 563 (Value.ref 562) :: envC :: outer) := Frs.fun_ (c := (L₃, o5) :: (L, oL) :: frs) (.cons rfl (by kernel_rfl) d5 hFr3) (fun p hp => by
      rcases List.mem_cons.mp hp with rfl | hp
      · exact eo5
      · exact F5.get (List.mem_append_left _ (List.mem_append_left _ hp)))
    have hen : e ∉ List.filterMap (·.frame) (envOf "tried" (fnS (st 66)) L₃ 563 (Value.ref 562) :: envC :: outer) := fun q => by
      rcases List.mem_cons.mp q with q | q
      · exact he.1 q
      · rw [show List.filterMap (·.frame) (envC :: outer) = ((L, oL) :: frs).map (·.1) from hFr3.fst] at q
        exact he.2.1 (by rw [List.map_append, List.map_append]; exact List.mem_append_left _ (List.mem_append_left _ q))
    refine note_x (Around.frames_deeper hA) (fly.ent.fun_ hfu5 hen) rfl hS2 fly fun h7 fly => ?_
    refine land_x fly fun h8 fly => ?_
    refine wpAny_handleBy_cons (codeAny_handlers_test ?_) (by intro q; cases q)
    have F5' := F5
    rw [List.append_assoc] at F5' he
    (wtm_at "pc")
    obtain ⟨frs8, s8, F8⟩ := F5'.fly fly hS he
    (wtm_at "pu")
    clear F F5
    have F := F8
    repeat (wtm_at "ev")
    (wtm_at "pc")
    obtain ⟨fs8, T8, ts8, c8, he8, _⟩ := fly.ex
    (wtm_at "pu")
    have X8 := W.k.keeps F.keep
    have t8 : Looks (Mo w) h8 (typeOf (.ref e)) (.ref 61) := (Looks.ld (part := some headPart) he8).andThen .now
    refine (exm_one X8 t8 (b := true) (by kernel_rfl)).at ?_
    refine codeAny_handlers_suite_as (land_x fly fun h9 fly => ?_)
    (wtm_at "pc")
    obtain ⟨frs9, s9, F9⟩ := F5'.fly fly hS he
    (wtm_at "pu")
    clear F F8
    (wtm_at "pc")
    obtain ⟨fs9, T9, ts9, c9, he9, _⟩ := fly.ex
    (wtm_at "pu")
    have F := F9.add he9 he.1 he.2.2 (fun q => he.2.1 (by
      rw [List.map_append] at q ⊢
      rwa [s9.fst] at q))
    clear F9
    dsimp only [List.cons_append, List.nil_append] at F
    repeat (wtm_at "ev")
    have mFd : (Fd, lsO ys m) ∈ (e, exO (some dx) fs9) :: (frs9 ++ [(H, lsO (zs ++ [Value.ref c]) n'), (c, o), (dx, dictOf es k), (Fd, lsO ys m)]) := .tail _ (List.mem_append_right _ (.tail _ (.tail _ (.tail _ (.head _)))))
    have mdx : (dx, dictOf es k) ∈ (e, exO (some dx) fs9) :: (frs9 ++ [(H, lsO (zs ++ [Value.ref c]) n'), (c, o), (dx, dictOf es k), (Fd, lsO ys m)]) := .tail _ (List.mem_append_right _ (.tail _ (.tail _ (.head _))))
    refine BMeth.append (F.get mFd) ?_
    repeat (wtm_at "ev")
    refine r_getX (W.k.keeps F.keep) (F.get (.head _)) (F.get mdx) rep (by wtm_at "lkf") (by kernel_rfl) (by kernel_rfl) ?_
    repeat (wtm_at "ev")
    have R1 : Rm 5 ((A.deeper (envOf "tried" (fnS (st 66)) L₃ 563 (Value.ref 562))).mark (some (Value.ref e))) := R.deep.mark
    refine Finding_new (W.keeps F.keep) R1.le fun h' x dx' es' n9 tk9 kx hn ne rep9 => ?_
    replace F := F.fresh kx hn (by simp [ne])
    repeat (wtm_at "ev")
    have F2 := F.perm (news' := (Fd, lsO ys m) :: ([(dx', dictOf es' n9), (x, instObj 456 dx'), (e, exO (some dx) fs9)] ++ (frs9 ++ [(H, lsO (zs ++ [Value.ref c]) n'), (c, o), (dx, dictOf es k)]))) (by
      have := List.perm_append_comm (l₁ := [(dx', dictOf es' n9), (x, instObj 456 dx'), (e, exO (some dx) fs9)] ++ (frs9 ++ [(H, lsO (zs ++ [Value.ref c]) n'), (c, o), (dx, dictOf es k)])) (l₂ := [(Fd, lsO ys m)])
      simpa using this)
    clear F
    refine r_append F2 (by lia) fun h10 m' F => ?_
    repeat (wtm_at "ev")
    obtain ⟨L', oL', frs', rfl, hdL, s'⟩ : ∃ L' oL' frs', frs9 = (L', oL') :: frs' ∧ (L' = L ∧ oL'.data = oL.data) ∧ Sl frs frs' := by
      cases s9 with
      | cons h s => exact ⟨_, _, _, rfl, ⟨rfl, h⟩, s⟩
    obtain ⟨rfl, hdL⟩ := hdL
    (try dsimp only)
    refine r_unas (i := 4) En.fn Y F rfl (by simp) fun h11 vs11 tk11 F s11 => ?_
    replace F := F.perm (news' := (L', oL') :: ((frs' ++ [(H, lsO (zs ++ [Value.ref c]) n'), (Fd, lsO (ys ++ [Value.ref x]) m')]) ++ ([(c, o), (dx, dictOf es k)] ++ [(dx', dictOf es' n9), (x, instObj 456 dx'), (e, exO (some dx) fs9)]))) (by
      have a := List.perm_append_comm (l₁ := [(Fd, lsO (ys ++ [Value.ref x]) m')] ++ [(dx', dictOf es' n9), (x, instObj 456 dx'), (e, exO (some dx) fs9)]) (l₂ := ((L', oL') :: frs') ++ [(H, lsO (zs ++ [Value.ref c]) n'), (c, o), (dx, dictOf es k)])
      have b := List.perm_append_comm (l₁ := [(c, o), (dx, dictOf es k)]) (l₂ := [(Fd, lsO (ys ++ [Value.ref x]) m')])
      have b2 := ((b.append_right [(dx', dictOf es' n9), (x, instObj 456 dx'), (e, exO (some dx) fs9)]).append_left ((((L', oL') :: frs') ++ [(H, lsO (zs ++ [Value.ref c]) n')])))
      refine List.Perm.trans (by simpa using a) (List.Perm.trans ?_ (List.Perm.trans b2 ?_))
      · simp
      · simp)
    refine back _ oL' frs' [Value.ref c] [Value.ref x] n' m' _ _ _ s' hdL F (fun z hz' => ?_) (by simp) ?_
    · obtain rfl := List.mem_singleton.mp hz'
      exact ⟨c, o, kvs, rfl, by simp, hd, lo, hB⟩
    · unfold triedF
      rw [if_pos c']
      exact FN.one (.tail _ (.tail _ (.tail _ (.head _)))) (.tail _ (.tail _ (.head _))) (rep9.of (by rfl))
end
noncomputable def TS (w : World) (frs0 : List (Addr × Obj)) (H Fd : Addr) (zs0 : List Value) (rest0 : List (Addr × Obj)) (ps : List (Str × List UInt8)) (k : Nat) (fs : List (Str × Str × Int)) (news : List (Addr × Obj)) : Prop :=
  ∃ frs' zs' ys n m rest', Sl frs0 frs' ∧ news = (frs' ++ [(H, lsO (zs0 ++ zs') n), (Fd, lsO ys m)]) ++ rest' ∧ (∀ p ∈ rest0, p ∈ rest') ∧ Cps w rest' zs' ps ∧ zs'.length ≤ k ∧ FN rest' ys fs
section
variable {w : World} {A : Around} {E : Value → Shared → Prop} {hb h : Heap} {g : Array GenState} {d : Drawn} {tk : Nat} {os : OsState} {mg mb : Str → Option Value} {mean : ExcName → Option Value}
  {L rd cc H Fd t : Addr} {t₀ : Tok} {tag : Str} {kvs : List (Str × Value)} {ps : List (Str × List UInt8)} {zs : List Value} {n m k : Nat} {ns : List Str} {vs : List (Option Value)} {frs rest news pre : List (Addr × Obj)} {envC : Env} {outer : List Env} {fs : List (Str × Str × Int)}
theorem r_tried {Q : Value → Shared → Prop} (W : Wd w mg mb mean hb) (F : Fm hb L ns vs (pre ++ news) h) (S : TS w frs H Fd zs rest ps k fs news) (R : Rm 6 A) (hh : A.handled = none) (hA : A.frames = some (envC :: outer)) (hf : envC.frame = some L) (hkC : envC.scope.kind = .function) (hFr : Frs outer frs)
    (hrd : RdAt hb rd cc H) (dk : Dk w hb t kvs) (hB : Bys kvs ps) (hk : kvs.length ≤ 1000) (hz : zs.length + k ≤ 1000) (hy : fs.length ≤ 1000)
    (hq : ∀ h' news' tk', Fm hb L ns vs (pre ++ news') h' → TS w frs H Fd zs rest ps (k + 1) (fs ++ triedF ps tag) news' → Q .none ⟨h', g, d, tk', os⟩) :
    wpAny (Mo w) A (call (.ref 563) [.str tag t₀, .ref t, .ref rd, .ref Fd]) Q E ⟨h, g, d, tk, os⟩ := by
  (wtm_at "pc")
  obtain ⟨frs', zs', ys, n, m, rest', s, rfl, hr, hc, hl, hfn⟩ := S
  (wtm_at "pu")
  have hlen := hfn.len
  have F1 := F.perm (news' := (frs' ++ [(H, lsO (zs ++ zs') n), (Fd, lsO ys m)]) ++ (pre ++ rest')) (by
    have a := List.perm_append_comm (l₁ := pre) (l₂ := frs' ++ [(H, lsO (zs ++ zs') n), (Fd, lsO ys m)])
    have b := a.append_right rest'
    simpa using b)
  refine tried_c W F1 R hh hA hf hkC (hFr.sl s) hrd dk hB hk (by simp; lia) (by lia) fun h' frs2 zs2 ys2 n2 m2 more tk' s2 F2 c2 l2 f2 => ?_
  refine hq h' ((frs2 ++ [(H, lsO (zs ++ (zs' ++ zs2)) n2), (Fd, lsO (ys ++ ys2) m2)]) ++ (more ++ rest')) tk' (F2.perm ?_) ⟨frs2, zs' ++ zs2, ys ++ ys2, n2, m2, more ++ rest', s.trans s2, rfl, fun p hp => List.mem_append_right _ (hr p hp), ?_, by simp; lia, ?_⟩
  · rw [List.append_assoc zs]
    have a := List.perm_append_comm (l₁ := (frs2 ++ [(H, lsO (zs ++ (zs' ++ zs2)) n2), (Fd, lsO (ys ++ ys2) m2)]) ++ more) (l₂ := pre)
    have b := a.append_right rest'
    simpa using b
  · exact (hc.mono fun p hp => List.mem_append_right _ hp).append (c2.mono fun p hp => List.mem_append_left _ hp)
  · exact (hfn.mono fun p hp => List.mem_append_right _ hp).append (f2.mono fun p hp => List.mem_append_left _ hp)
end
theorem Bys.isSome {kvs : List (Str × Value)} {ps : List (Str × List UInt8)} (b : Bys kvs ps) (nd : (kvs.map (·.1)).Nodup) (tag : Str) : (PySem.valueAt kvs tag).isSome = decide (tag ∈ ps.map (·.1)) := by
  by_cases q : tag ∈ ps.map (·.1)
  · (wtm_at "pc")
    obtain ⟨p, hp, e⟩ := List.mem_map.mp q
    (wtm_at "pu")
    obtain ⟨t', e'⟩ := b.valueAt (k := tag) (l := p.2) (by rw [← b.keys]; exact nd) (by rw [← e]; exact hp)
    rw [e', decide_eq_true q]; rfl
  · rw [b.none_ q, decide_eq_false q]; rfl
theorem TS.mem0 {w : World} {frs0 : List (Addr × Obj)} {H Fd : Addr} {zs0 : List Value} {rest0 : List (Addr × Obj)} {ps : List (Str × List UInt8)} {k : Nat} {fs : List (Str × Str × Int)} {news : List (Addr × Obj)} (S : TS w frs0 H Fd zs0 rest0 ps k fs news) {p : Addr × Obj} (hp : p ∈ rest0) : p ∈ news := by
  (wtm_at "pc")
  obtain ⟨_, _, _, _, _, _, _, rfl, hr, _⟩ := S
  (wtm_at "pu")
  exact List.mem_append_right _ (hr p hp)
theorem TS.found {w : World} {frs0 : List (Addr × Obj)} {H Fd : Addr} {zs0 : List Value} {rest0 : List (Addr × Obj)} {ps : List (Str × List UInt8)} {k : Nat} {fs : List (Str × Str × Int)} {news : List (Addr × Obj)} (S : TS w frs0 H Fd zs0 rest0 ps k fs news) : ∃ ys m, (Fd, lsO ys m) ∈ news ∧ FN news ys fs := by
  (wtm_at "pc")
  obtain ⟨_, _, ys, _, m, _, _, rfl, hr, _, _, fn⟩ := S
  (wtm_at "pu")
  exact ⟨ys, m, List.mem_append_left _ (List.mem_append_right _ (.tail _ (.head _))), fn.mono fun p hp => List.mem_append_right _ hp⟩
theorem TS.more {w : World} {frs0 : List (Addr × Obj)} {H Fd : Addr} {zs0 : List Value} {rest0 : List (Addr × Obj)} {ps : List (Str × List UInt8)} {k : Nat} {fs : List (Str × Str × Int)} {news : List (Addr × Obj)} {h₀ h : Heap} {L : Addr} {ns : List Str} {vs : List (Option Value)} {p : Addr × Obj} (S : TS w frs0 H Fd zs0 rest0 ps k fs news) (F : Fm h₀ L ns vs (p :: news) h) :
    ∃ news', Fm h₀ L ns vs news' h ∧ TS w frs0 H Fd zs0 (p :: rest0) ps k fs news' := by
  (wtm_at "pc")
  obtain ⟨frs', zs', ys, n, m, rest', s, rfl, hr, c, l, fn⟩ := S
  (wtm_at "pu")
  refine ⟨_, F.perm (news' := (frs' ++ [(H, lsO (zs0 ++ zs') n), (Fd, lsO ys m)]) ++ (p :: rest')) List.perm_middle.symm, frs', zs', ys, n, m, p :: rest', s, rfl, fun q hq => ?_, c.mono fun q hq => .tail _ hq, l, fn.mono fun q hq => .tail _ hq⟩
  rcases List.mem_cons.mp hq with rfl | hq
  · exact .head _
  · exact .tail _ (hr q hq)
noncomputable def gsV (t1 t2 : Tok) : List Value := [.str "GSUB" t1, .str "GPOS" t2]
theorem gsV_at {t1 t2 : Tok} : ∀ (i : Nat) (v : Value), (gsV t1 t2)[i]? = some v → ∃ tg t, (["head", "hhea", "maxp", "cmap", "GDEF", "GSUB", "GPOS", "kern"] : List Str)[5 + i]? = some tg ∧ v = .str tg t
  | 0, v, e => by cases e; exact ⟨_, _, rfl, rfl⟩
  | 1, v, e => by cases e; exact ⟨_, _, rfl, rfl⟩
  | i + 2, v, e => by cases e
noncomputable def notCmap (f : Str × Str × Int) : Bool := !decide (f.1 = ("cmap" : Str))
noncomputable def missF (ps : List (Str × List UInt8)) (tags : List Str) : List (Str × Str × Int) := (tags.filter fun t => decide (t ∉ ps.map (·.1))).map fun t => (t, "is missing", -1)
noncomputable def needL : List Str := ["cmap", "head", "hhea", "hmtx", "maxp"]
noncomputable def triedL : List Str := ["head", "hhea", "maxp", "cmap", "GDEF", "GSUB", "GPOS", "kern"]
noncomputable def findingsOf (ps : List (Str × List UInt8)) : List (Str × Str × Int) := missF ps needL ++ triedL.flatMap (triedF ps)
section
variable {w : World} {A : Around} {E : Value → Shared → Prop} {hb h : Heap} {g : Array GenState} {d : Drawn} {tk : Nat} {os : OsState} {mg mb : Str → Option Value} {mean : ExcName → Option Value}
  {L rd cc H t : Addr} {t₀ : Tok} {tag : Str} {kvs : List (Str × Value)} {ps : List (Str × List UInt8)} {zs : List Value} {n m k : Nat} {ns : List Str} {vs : List (Option Value)} {frs rest news pre : List (Addr × Obj)} {envC : Env} {outer : List Env} {fs : List (Str × Str × Int)}
noncomputable def needV : List Value := [.str "cmap" 749, .str "head" 750, .str "hhea" 751, .str "hmtx" 752, .str "maxp" 753]
theorem needV_at : ∀ (i : Nat) (v : Value), needV[i]? = some v → ∃ tg t, needL[i]? = some tg ∧ v = .str tg t
  | 0, v, e => by cases e; exact ⟨_, _, rfl, rfl⟩
  | 1, v, e => by cases e; exact ⟨_, _, rfl, rfl⟩
  | 2, v, e => by cases e; exact ⟨_, _, rfl, rfl⟩
  | 3, v, e => by cases e; exact ⟨_, _, rfl, rfl⟩
  | 4, v, e => by cases e; exact ⟨_, _, rfl, rfl⟩
  | i + 5, v, e => by cases e
theorem flat_len (ps : List (Str × List UInt8)) : ∀ l : List Str, (l.flatMap (triedF ps)).length ≤ l.length
  | [] => Nat.le_refl _
  | t :: l => by
    rw [List.flatMap_cons, List.length_append]
    have := flat_len ps l
    have : (triedF ps t).length ≤ 1 := by unfold triedF; split <;> simp
    simp only [List.length_cons]; lia
theorem miss_len (ps : List (Str × List UInt8)) (l : List Str) : (missF ps l).length ≤ l.length := by unfold missF; rw [List.length_map]; exact List.length_filter_le _ _
noncomputable def fsk (ps : List (Str × List UInt8)) (i : Nat) : List (Str × Str × Int) := missF ps needL ++ (triedL.take i).flatMap (triedF ps)
theorem fs_len (ps : List (Str × List UInt8)) (i : Nat) : (fsk ps i).length ≤ 1000 := by
  have a := miss_len ps needL
  have b := flat_len ps (triedL.take i)
  have c : (triedL.take i).length ≤ 8 := by rw [List.length_take]; exact Nat.min_le_right _ _
  have e : needL.length = 5 := rfl
  unfold fsk
  rw [List.length_append]; lia
theorem fs_next (ps : List (Str × List UInt8)) {i : Nat} {tg : Str} (h : triedL[i]? = some tg) : fsk ps i ++ triedF ps tg = fsk ps (i + 1) := by
  unfold fsk
  rw [List.take_add_one, h, Option.toList_some, List.flatMap_append, List.append_assoc]; simp
theorem fs_zero (ps : List (Str × List UInt8)) : fsk ps 0 = missF ps needL := by simp [fsk]
theorem needed_at (W : Wd w mg mb mean hb) : Tp hb 431 needV := Tp.of (W.k _ _ (by kernel_rfl))
noncomputable def headV : List Value := [.str "head" 755, .str "hhea" 756, .str "maxp" 757]
theorem headV_at : ∀ (i : Nat) (v : Value), headV[i]? = some v → ∃ tg t, triedL[i]? = some tg ∧ v = .str tg t
  | 0, v, e => by cases e; exact ⟨_, _, rfl, rfl⟩
  | 1, v, e => by cases e; exact ⟨_, _, rfl, rfl⟩
  | 2, v, e => by cases e; exact ⟨_, _, rfl, rfl⟩
  | i + 3, v, e => by cases e
theorem heads_at (W : Wd w mg mb mean hb) : Tp hb 432 headV := Tp.of (W.k _ _ (by kernel_rfl))
theorem check_tables_c {Q : Value → Shared → Prop} (W : Wd w mg mb mean hb) (F : Fm hb L ns vs ((frs ++ [(H, lsO zs n)]) ++ rest) h) (R : Rm 8 A) (hh : A.handled = none) (hA : A.frames = some (envC :: outer)) (hf : envC.frame = some L) (hkC : envC.scope.kind = .function) (hFr : Frs outer frs)
    (hrd : RdAt hb rd cc H) (dk : Dk w (hideAll h (L :: (frs ++ [(H, lsO zs n)]).map (·.1))) t kvs) (hB : Bys kvs ps) (hk : kvs.length ≤ 1000) (hz : zs.length ≤ 900) (hmiss : ("hhea" : Str) ∉ ps.map (·.1))
    (hq : ∀ h' frs' zs' n' more Fd ys m tk', Sl frs frs' → Fm hb L ns vs ((frs' ++ [(H, lsO (zs ++ zs') n')]) ++ (more ++ rest)) h' → (Fd, lsO ys m) ∈ more → Cps w more zs' ps → zs'.length ≤ 10 → FN more ys (findingsOf ps) → Q (.ref Fd) ⟨h', g, d, tk', os⟩) :
    wpAny (Mo w) A (call (.ref 568) [.ref t, .ref rd]) Q E ⟨h, g, d, tk, os⟩ := by
  (wtm_at "pc")
  obtain ⟨oL, esL, epL, eL, dL⟩ := F.own
  (wtm_at "pu")
  have kb : Ext hb h := F.keep
  have fnd := F.nd
  rw [List.map_append, List.nodup_append] at fnd
  refine wpAny_call (callFC (news := (L, oL) :: (frs ++ [(H, lsO zs n)])) (df_check_tables w) (by kernel_rfl) [some (.ref rd), none, none, none, none, none, none, none, none] W kb (fun p hp => ?_) ?_ R.room rfl (fun i y v hi hv => ?_) fun L₂ h₁ tk₁ cells W₂ up Yc F₂ => ?_)
  · rcases List.mem_cons.mp hp with rfl | hp
    · exact ⟨eL, F.selfNone⟩
    · exact ⟨(F.led p (List.mem_append_left _ hp)).1, (F.led p (List.mem_append_left _ hp)).2.2⟩
  · rw [List.map_cons, List.nodup_cons]
    refine ⟨fun q => ?_, fnd.1⟩
    (wtm_at "pc")
    obtain ⟨p, hp, e⟩ := List.mem_map.mp q
    (wtm_at "pu")
    exact (F.led p (List.mem_append_left _ hp)).2.1 e
  · match i, hi, hv with
    | 0, hi, hv => cases hi; cases hv; kernel_rfl
    | 1, hi, hv => cases hv
    | 2, hi, hv => cases hv
    | 3, hi, hv => cases hv
    | 4, hi, hv => cases hv
    | 5, hi, hv => cases hv
    | 6, hi, hv => cases hv
    | 7, hi, hv => cases hv
    | 8, hi, hv => cases hv
    | n + 9, hi, _ => simp at hi
  have dk : Dk w (hideAll h (((L, oL) :: (frs ++ [(H, lsO zs n)])).map (·.1))) t kvs := dk
  have aft : ∀ {L₂ : Addr} {oL' : Obj} {frs' : List (Addr × Obj)} {zs' : List Value} {n' : Nat} {more : List (Addr × Obj)} {h' : Heap} {ns' vs'}, Sl frs frs' → oL'.data = oL.data → Fm (hideAll h (((L, oL) :: (frs ++ [(H, lsO zs n)])).map (·.1))) L₂ ns' vs' ((L, oL') :: ((frs' ++ [(H, lsO (zs ++ zs') n')]) ++ more)) h' → Fm hb L ns vs ((frs' ++ [(H, lsO (zs ++ zs') n')]) ++ (more ++ rest)) h' :=
    fun s hd G => F.after eL G (by simp [s.fst]) hd
  obtain ⟨hG, hGe⟩ : ∃ x, x = hideAll h (((L, oL) :: (frs ++ [(H, lsO zs n)])).map (·.1)) := ⟨_, rfl⟩
  rw [← hGe] at W₂ up F₂ dk
  simp only [← hGe] at aft
  have Y := (df_check_tables w).fi
  (wtm_at "pc")
  obtain ⟨oC, rfl, hco⟩ := CellsAre.one (n := "tables") (c := L₂ + 1) Yc
  (wtm_at "pu")
  replace hco : oC.data = .cell (some (.ref t)) := hco.trans (by kernel_rfl)
  have hcl : (cellsFrom (L₂ + 1) (fnS (st 67)).names []).lookup ("tables" : Str) = some (L₂ + 1) := by kernel_rfl
  have hclF : List.lookup ("tables" : Str) [(("tables" : Str), L₂ + 1)] = some (L₂ + 1) := by kernel_rfl
  have F0 := F
  have W0 := W
  clear F W
  have F := F₂
  have W := W₂
  clear F₂
  have dk2 : Dk w hG t kvs := dk
  have hrd2 := hrd.ext up
  refine wpAny_mono (E := fun _ _ => False) ?_ (fun _ _ q => q) (fun _ _ q => q.elim)
  have back : ∀ h' oL' frs' zs' n' more Fd ys m tk' vs', Sl frs frs' → oL'.data = oL.data → Fm hG L₂ ["read", "tag", "found", "count", "metrics", "charmap", "gdef", "layout", "pairs"] vs' ((L, oL') :: ((frs' ++ [(H, lsO (zs ++ zs') n')]) ++ more)) h' →
      (Fd, lsO ys m) ∈ more → Cps w more zs' ps → zs'.length ≤ 10 → FN more ys (findingsOf ps) → Q (.ref Fd) ⟨h', g, d, tk', os⟩ := fun h' oL' frs' zs' n' more Fd ys m tk' vs' s hd G a b c e =>
    hq _ _ _ _ _ _ _ _ _ s (aft s hd G) a b c e
  clear up dk F0
  refine wp_start ?_
  intro Av envv
  refine wpAny_execs_cons ?_
  refine r_acomp _ ?_ (by rfl) (by rfl) (by rfl) (by decide +kernel)
  repeat (wtm_at "ev")
  refine r_iterT F ((needed_at W).ext F.keep) fun I h3 oI F3 st3 neI k3 => ?_
  obtain ⟨NE, hNE⟩ : ∃ NE, NE = [(L₂ + 1, oC)] ++ (L, oL) :: (frs ++ [(H, lsO zs n)]) := ⟨_, rfl⟩
  rw [← hNE] at F3
  have mC : (L₂ + 1, oC) ∈ NE := by rw [hNE]; exact .head _
  refine comp_finA (nsC := ["tag"]) (cnsC := ["tables"]) (gsC := [("Finding", .ref 456)]) (bsC := []) 0 2 En.fnC Y rfl rfl (Fi.of (by kernel_rfl)) (by decide +kernel) rfl (Walks.tuple (by exact hh) I 431 (Ne.symm neI) needV.toArray) st_tuple
    (fun i ys news => ∃ more, news = more ++ NE ∧ FN more ys (missF ps (needL.take i))) (fun b hb => ?_) rfl (by rw [sizeLine_eq]; decide) W F3 st3 ⟨[], rfl, FN.nil⟩ ?_ ?_
  · rcases List.mem_cons.mp hb with rfl | q
    · exact .inl rfl
    · obtain rfl := List.mem_singleton.mp q
      (wtm_at "pc")
      obtain ⟨o, e, _⟩ := st3.2
      (wtm_at "pu")
      refine .inr (.inl ⟨⟨o, e⟩, fun z => ?_⟩)
      rcases List.mem_cons.mp z with z | z
      · exact neI z.symm
      · (wtm_at "pc")
        obtain ⟨p, hp, e⟩ := List.mem_map.mp z
        (wtm_at "pu")
        have := (F3.led p (.tail _ hp)).2.2
        (wtm_at "pc")
        obtain ⟨o', e', _⟩ := needed_at W
        (wtm_at "pu")
        rw [e, e'] at this; cases this
  · intro hb' C D' i v ys news₁ h tk oI ep Y W' keep hi pv hJ0 F en
    (wtm_at "pc")
    obtain ⟨more, rfl, fn⟩ := hJ0
    (wtm_at "pu")
    have kx : Ext _ hb' := fun b o e => keep b o (by
      intro q
      rcases List.mem_cons.mp q with q | q
      · have := (F3.led _ (.head _)).2.2
        rw [q] at e; rw [this] at e; cases e
      · (wtm_at "pc")
        obtain ⟨p, hp, e'⟩ := List.mem_map.mp q
        (wtm_at "pu")
        have := (F3.led p (.tail _ hp)).2.2
        rw [← e', this] at e; cases e) (F3.keep _ _ e)
    have W := W'
    (wtm_at "fs")
    (wtm_at "pc")
    obtain ⟨tg, tt, hneed, rfl⟩ := needV_at i v (by simpa using pv)
    (wtm_at "pu")
    have mC' : (L₂ + 1, oC) ∈ more ++ NE := List.mem_append_right _ mC
    refine r_test1 ?_
    repeat (wtm_at "ev")
    refine r_notInD ((dk2.ext kx).ext F.keep) ?_
    repeat (wtm_at "ev")
    rw [hB.isSome dk2.nodup]
    have ef : missF ps (needL.take (i + 1)) = missF ps (needL.take i) ++ if tg ∉ ps.map (·.1) then ([(tg, ("is missing" : Str), (-1 : Int))] : List (Str × Str × Int)) else [] := by
      unfold missF
      rw [List.take_add_one, hneed, Option.toList_some, List.filter_append, List.map_append, List.filter_cons]
      by_cases q : tg ∉ ps.map (·.1)
      · rw [if_pos q, if_pos (by simpa using q)]; rfl
      · rw [if_neg q, if_neg (by simpa using q)]; rfl
    refine r_if (fun c => ?_) fun c => ?_
    · have c' : tg ∉ ps.map (·.1) := by simpa using c
      repeat (wtm_at "ev")
      refine Finding_new (W.keeps F.keep) R.deep.le fun h' x dx' es' n9 tk9 kx hn ne rep9 => ?_
      replace F := F.fresh kx hn (by simp [ne])
      refine ⟨_, _, _, _, rfl, F.perm (news' := (I, oI) :: (D', lsO ys ep) :: (((dx', dictOf es' n9) :: (x, instObj 456 dx') :: more) ++ NE)) ?_, _, rfl, ?_⟩
      · exact (List.perm_append_comm_assoc [(dx', dictOf es' n9), (x, instObj 456 dx')] [(I, oI), (D', lsO ys ep)] (more ++ NE))
      · rw [ef, if_pos c']
        exact (fn.mono fun p hp => .tail _ (.tail _ hp)).append (FN.one (.tail _ (.head _)) (.head _) (rep9.of (by rfl)))
    · have c' : ¬ tg ∉ ps.map (·.1) := by simpa using c
      rw [if_neg c', List.append_nil] at ef
      refine ⟨_, _, _, _, rfl, F, _, rfl, ?_⟩
      rw [ef]; exact fn
  · intro D ys news₁ h tk ep hJ0 F
    (wtm_at "pc")
    obtain ⟨more, rfl, fn⟩ := hJ0
    (wtm_at "pu")
    (wtm_at "fs")
    replace fn : FN more ys (missF ps needL) := fn
    subst hNE
    have F1 := F.perm (news' := ((((L, oL) :: frs) ++ [(H, lsO (zs ++ []) n), (D, lsO ys ep)]) ++ (more ++ [(L₂ + 1, oC)]))) (by
      have a := List.perm_append_comm (l₁ := (D, lsO ys ep) :: (more ++ [(L₂ + 1, oC)])) (l₂ := ((L, oL) :: frs) ++ [(H, lsO zs n)])
      simpa using a)
    have S1 : TS w ((L, oL) :: frs) H D zs [(L₂ + 1, oC)] ps 0 (missF ps needL) ((((L, oL) :: frs) ++ [(H, lsO (zs ++ []) n), (D, lsO ys ep)]) ++ (more ++ [(L₂ + 1, oC)])) := ⟨(L, oL) :: frs, [], ys, n, ep, more ++ [(L₂ + 1, oC)], Sl.refl _, rfl, fun p hp => List.mem_append_right _ hp, (fun _ h => nomatch h), Nat.le_refl _, fn.mono fun p hp => List.mem_append_left _ hp⟩
    generalize ((((L, oL) :: frs) ++ [(H, lsO (zs ++ []) n), (D, lsO ys ep)]) ++ (more ++ [(L₂ + 1, oC)])) = N1 at F1 S1
    clear F F3
    have F := F1
    clear F1
    repeat (wtm_at "ev")
    refine r_iterT F ((heads_at W).ext F.keep) fun I h3 oI F3 st3 neI k3 => ?_
    have hA2 := Around.frames_deeper (env := envOfC "check_tables" (fnS (st 67)) L₂ 568 (Value.ref 567)) hA
    have hFr2 : Frs (envC :: outer) ((L, oL) :: frs) := .cons hf hkC dL hFr
    clear F
    refine for_at 1 En.fnC Y (Walks.tuple (by exact hh) I 432 (Ne.symm neI) headV.toArray) st_tuple (fun i vs news => TS w ((L, oL) :: frs) H D zs [(L₂ + 1, oC)] ps i (fsk ps i) news ∧ ∃ c1, vs = [some (.ref rd), c1, some (.ref D), some (Value.int 65536 759), none, none, none, none, none])
      (fun b hb => ?_) rfl F3 st3 ⟨by rw [fs_zero]; exact S1, _, rfl⟩ ?_ ?_
    · rcases List.mem_cons.mp hb with rfl | q
      · exact .inl rfl
      · obtain rfl := List.mem_singleton.mp q
        (wtm_at "pc")
        obtain ⟨o, e, _⟩ := heads_at W
        (wtm_at "pu")
        exact .inr (.inl ⟨o, e⟩)
    · intro i v vs₁ news₁ h tk oI hi pv hJ0 F
      (wtm_at "pc")
      obtain ⟨S, c1, rfl⟩ := hJ0
      (wtm_at "pu")
      (wtm_at "fs")
      have mC2 := S.mem0 (List.mem_singleton.mpr rfl)
      (wtm_at "pc")
      obtain ⟨tg, tt, htg, rfl⟩ := headV_at i v (by simpa using pv)
      (wtm_at "pu")
      repeat (wtm_at "ev")
      have hi3 : i < 3 := hi
      refine r_tried (pre := [(I, oI)]) W F S R.deep.le (by exact hh) hA2 rfl (by kernel_rfl) hFr2 hrd2 dk2 hB hk (by lia) (fs_len ps i) fun h2 news2 tk2 F S => ?_
      rw [fs_next ps htg] at S
      repeat (wtm_at "ev")
      exact ⟨rfl, _, _, _, _, rfl, F, S, _, rfl⟩
    · intro vs₁ news₁ h tk hJ0 F
      (wtm_at "pc")
      obtain ⟨S, c1, rfl⟩ := hJ0
      (wtm_at "pu")
      replace S : TS w ((L, oL) :: frs) H D zs [(L₂ + 1, oC)] ps 3 (fsk ps 3) news₁ := S
      repeat (wtm_at "ev")
      (wtm_at "pc")
      obtain ⟨ys3, m3, mD, fn3⟩ := S.found
      (wtm_at "pu")
      obtain ⟨fs3, hfs3⟩ : ∃ fs3, fs3 = fsk ps 3 := ⟨_, rfl⟩
      have hin : (("hhea", "is missing", -1) : Str × Str × Int) ∈ fs3 := by
        rw [hfs3]
        refine List.mem_append_left _ (List.mem_map.mpr ⟨"hhea", List.mem_filter.mpr ⟨by decide +kernel, by simpa using hmiss⟩, rfl⟩)
      have hlen3 : fs3.length ≤ 1000 := by rw [hfs3]; exact fs_len ps 3
      rw [← hfs3] at fn3
      have hl3 := fn3.len
      refine r_iterL F (Ls.of (F.get mD)) fun I h3 oI F3 st3 neI k3 => ?_
      refine comp_finT (nsC := ["finding"]) (cnsC := []) (gsC := []) (bsC := []) 0 En.fnC rfl (Fi.of (by kernel_rfl)) (by decide +kernel) rfl (Walks.list (by exact hh) I D (Ne.symm neI) ys3.toArray) st_list
        (fun i ys' news => news = news₁ ∧ ys'.length = ((fs3.take i).filter notCmap).length) (fun b hb => ?_) rfl (by rw [sizeLine_eq]; simp; lia) W F3 st3 ⟨rfl, rfl⟩ ?_ ?_
      · rcases List.mem_cons.mp hb with rfl | q
        · exact .inl rfl
        · obtain rfl := List.mem_singleton.mp q
          exact .inr (.inr ⟨_, fun i ys news j => j.1 ▸ mD⟩)
      · rintro hb' C D' i v ys' news₂ h tk oI ep Y W' keep hi pv ⟨rfl, hl'⟩ F en
        have W := W'
        (wtm_at "fs")
        have hi' : i < fs3.length := by rw [← hl3]; simpa using hi
        obtain ⟨f3, hf3⟩ : ∃ f3, fs3[i]? = some f3 := ⟨_, List.getElem?_eq_getElem hi'⟩
        have mf3 := List.mem_of_getElem? hf3
        (wtm_at "pc")
        obtain ⟨x, dx, es, n', t1, t2, t3, rfl, m1, m2, rep⟩ := fn3.at_ i v f3 (by simpa using pv) (hf3)
        (wtm_at "pu")
        refine wpAny_isTrue_Compare1 ?_
        repeat (wtm_at "ev")
        have ef : (fs3.take (i + 1)).filter notCmap = (fs3.take i).filter notCmap ++ if notCmap f3 = true then [f3] else [] := by
          rw [List.take_add_one, hf3, Option.toList_some, List.filter_append, List.filter_cons]
          rfl
        show if notCmap f3 = true then _ else _
        refine r_if (fun c => ?_) fun c => ?_
        · rw [if_pos c] at ef
          repeat (wtm_at "ev")
          refine ⟨_, _, _, _, rfl, F, rfl, ?_⟩
          rw [ef]; simp [hl']
        · rw [if_neg c, List.append_nil] at ef
          refine ⟨_, _, _, _, rfl, F, rfl, ?_⟩
          rw [ef]; exact hl'
      · rintro D2 ys' news₂ h tk ep ⟨rfl, hl'⟩ F
        have hne : ys'.length ≠ 0 := fun q => by
          rw [q] at hl'
          have hm : (("hhea", "is missing", -1) : Str × Str × Int) ∈ (fs3.take ys3.toArray.size).filter notCmap := by
            rw [List.size_toArray, hl3, List.take_length]
            exact List.mem_filter.mpr ⟨hin, by decide +kernel⟩
          have := List.length_pos_of_mem hm
          lia
        have hle : ys'.length ≤ 1000 := by
          rw [hl']
          refine Nat.le_trans (List.length_filter_le _ _) ?_
          rw [List.length_take]; lia
        repeat (wtm_at "ev")
        refine r_lenL (Ls.of (F.get (.head _))) (by lia) ?_
        repeat (wtm_at "ev")
        refine r_ifF (by simpa using hne) ?_
        replace F := F.drop (news' := news₂) (.cons _ (List.Sublist.refl _))
        have mC3 := S.mem0 (List.mem_singleton.mpr rfl)
        repeat (wtm_at "ev")
        refine r_tried (pre := []) W F S R.deep.le (by exact hh) hA2 rfl (by kernel_rfl) hFr2 hrd2 dk2 hB hk (by lia) (fs_len ps 3) fun h news tk F S => ?_
        rw [fs_next ps (i := 3) (by rfl)] at S
        rw [List.nil_append] at F
        have mC3 := S.mem0 (List.mem_singleton.mpr rfl)
        repeat (wtm_at "ev")
        refine wpAny_isNot_self (by rfl) ?_
        repeat (wtm_at "ev")
        refine r_tried (pre := []) W F S R.deep.le (by exact hh) hA2 rfl (by kernel_rfl) hFr2 hrd2 dk2 hB hk (by lia) (fs_len ps 4) fun h news tk F S => ?_
        rw [fs_next ps (i := 4) (by rfl)] at S
        rw [List.nil_append] at F
        have mC3 := S.mem0 (List.mem_singleton.mpr rfl)
        repeat (wtm_at "ev")
        refine wpAny_isNot_self (by rfl) ?_
        repeat (wtm_at "ev")
        clear F
        (wtm_at "pc")
        obtain ⟨news5, F, S⟩ := S.more FT
        (wtm_at "pu")
        clear FT
        rename_i a _ _
        refine r_iterT F (Tp.of Ia) fun I5 h5 oI5 F5 st5 neI5 k5 => ?_
        refine for_at 1 En.fnC Y (Walks.tuple (by exact hh) I5 a (Ne.symm neI5) (gsV _ _).toArray) st_tuple (fun i vs news => TS w ((L, oL) :: frs) H D zs ((a, _) :: [(L₂ + 1, oC)]) ps (5 + i) (fsk ps (5 + i)) news ∧ ∃ c1 c2, vs = [some (.ref rd), c1, some (.ref D), some (Value.int 65536 759), none, some .none, some .none, c2, none])
          (fun b hb => ?_) rfl F5 st5 ⟨S, _, _, rfl⟩ ?_ ?_
        · rcases List.mem_cons.mp hb with rfl | q
          · exact .inl rfl
          · obtain rfl := List.mem_singleton.mp q
            exact .inr (.inr ⟨_, fun i vs news j => j.1.mem0 (.head _)⟩)
        · intro i v vs₁ news₁ h tk oI hi pv hJ0 F
          (wtm_at "pc")
          obtain ⟨S, c1, c2, rfl⟩ := hJ0
          (wtm_at "pu")
          (wtm_at "fs")
          have mC2 := S.mem0 (.tail _ (.head _))
          (wtm_at "pc")
          obtain ⟨tg, tt, htg, rfl⟩ := gsV_at i v (by simpa using pv)
          (wtm_at "pu")
          repeat (wtm_at "ev")
          have hi2 : i < 2 := hi
          refine r_tried (pre := [(I5, oI)]) W F S R.deep.le (by exact hh) hA2 rfl (by kernel_rfl) hFr2 hrd2 dk2 hB hk (by lia) (fs_len ps (5 + i)) fun h2 news2 tk2 F S => ?_
          rw [fs_next ps htg] at S
          repeat (wtm_at "ev")
          refine wpAny_isNot_self (by rfl) ?_
          repeat (wtm_at "ev")
          exact ⟨rfl, _, _, _, _, rfl, F, S, _, _, rfl⟩
        · intro vs₁ news₁ h tk hJ0 F
          (wtm_at "pc")
          obtain ⟨S, c1, c2, rfl⟩ := hJ0
          (wtm_at "pu")
          replace S : TS w ((L, oL) :: frs) H D zs _ ps 7 (fsk ps 7) news₁ := S
          have mC2 := S.mem0 (.tail _ (.head _))
          repeat (wtm_at "ev")
          refine r_tried (pre := []) W F S R.deep.le (by exact hh) hA2 rfl (by kernel_rfl) hFr2 hrd2 dk2 hB hk (by lia) (fs_len ps 7) fun h news tk F S => ?_
          rw [fs_next ps (i := 7) (by rfl)] at S
          rw [List.nil_append] at F
          repeat (wtm_at "ev")
          refine wpAny_isNot_self (by rfl) ?_
          repeat (wtm_at "ev")
          (wtm_at "pc")
          obtain ⟨frs9, zs9, ys9, n9, m9, rest9, s9, rfl, hr9, c9, l9, f9⟩ := S
          (wtm_at "pu")
          obtain ⟨oL', frs', rfl, hdL, s'⟩ : ∃ oL' frs', frs9 = (L, oL') :: frs' ∧ oL'.data = oL.data ∧ Sl frs frs' := by
            cases s9 with
            | cons h s => exact ⟨_, _, rfl, h, s⟩
          refine back _ oL' frs' zs9 n9 ((D, lsO ys9 m9) :: rest9) D ys9 m9 _ _ s' hdL (F.perm ?_) (.head _) (c9.mono fun p hp => .tail _ hp) (by lia) (f9.mono fun p hp => .tail _ hp)
          simp
end
noncomputable def sumF (tg : Str) : Str × Str × Int := (tg, "sum", -1)
section
variable {w : World} {A : Around} {E : Value → Shared → Prop} {hb h : Heap} {g : Array GenState} {d : Drawn} {tk : Nat} {os : OsState} {mg mb : Str → Option Value} {mean : ExcName → Option Value}
  {L rd cc H : Addr} {t₀ : Tok} {l : List UInt8} {zs : List Value} {n c : Nat} {ns : List Str} {vs : List (Option Value)} {frs rest news : List (Addr × Obj)} {envC : Env} {outer : List Env}
theorem Fm.restUp {hid : List (Addr × Obj)} (F : Fm hb L ns vs (hid ++ rest) h) {p : Addr × Obj} (hp : p ∈ rest) : (hideAll h (L :: hid.map (·.1))).get? p.1 = some p.2 :=
  hideAll_get _ (F.led p (List.mem_append_right _ hp)).1 fun z => by
    have fnd := F.nd
    rw [List.map_append, List.nodup_append] at fnd
    rcases List.mem_cons.mp z with z | z
    · exact (F.led p (List.mem_append_right _ hp)).2.1 z
    · exact fnd.2.2 _ z _ (List.mem_map.mpr ⟨p, hp, rfl⟩) rfl
theorem Fm.baseUp {hid : List (Addr × Obj)} (F : Fm hb L ns vs (hid ++ rest) h) : Ext hb (hideAll h (L :: hid.map (·.1))) := fun b o q => hideAll_get _ (F.keep _ _ q) fun z => by
  rcases List.mem_cons.mp z with rfl | z
  · rw [F.selfNone] at q; cases q
  · (wtm_at "pc")
    obtain ⟨p, hp, rfl⟩ := List.mem_map.mp z
    (wtm_at "pu")
    rw [(F.led p (List.mem_append_left _ hp)).2.2] at q; cases q
theorem wrongs_len {l : List UInt8} {c : Nat} : (wrongs l (recsD l c)).length ≤ c := by
  unfold wrongs
  rw [List.length_map]
  refine Nat.le_trans (List.length_filter_le _ _) ?_
  rw [recsD_length]; exact Nat.le_refl _
theorem r_addL {a b : Addr} {ys ws : List Value} {Q : Value → Shared → Prop} (F : Fm hb L ns vs news h) (la : Ls h a ys) (lb : Ls h b ws) (hn : ys.length + ws.length ≤ 10000) (hq : ∀ x h', Fm hb L ns vs ((x, lsO (ys ++ ws) 0) :: news) h' → Q (.ref x) ⟨h', g, d, tk, os⟩) :
    wpAny (Mo w) A (binaryOp .Add (.ref a) (.ref b)) Q E ⟨h, g, d, tk, os⟩ := by
  (wtm_at "pc")
  obtain ⟨m, f, lo⟩ := F.fr
  (wtm_at "pu")
  refine add_lists (s := ⟨h, g, d, tk, os⟩) (hsz := by rw [sizeLine_eq]; lia) f F.led la lb fun h' f' N' => hq _ h' ?_
  refine ⟨⟨m, f', lo⟩, N', ?_⟩
  rw [List.map_cons, List.nodup_cons]
  refine ⟨fun q => ?_, F.nd⟩
  (wtm_at "pc")
  obtain ⟨p, hp, e⟩ := List.mem_map.mp q
  (wtm_at "pu")
  have := Heap.lt_size (F.led p hp).1
  rw [e] at this; exact Nat.lt_irrefl _ this
theorem check_file_c {Q : Value → Shared → Prop} (W : Wd w mg mb mean hb) (F : Fm hb L ns vs ((frs ++ [(H, lsO zs n)]) ++ rest) h) (R : Rm 12 A) (hh : A.handled = none) (hA : A.frames = some (envC :: outer)) (hf : envC.frame = some L) (hkC : envC.scope.kind = .function) (hFr : Frs outer frs)
    (hrd : RdAt (hideAll h (L :: (frs ++ [(H, lsO zs n)]).map (·.1))) rd cc H) (G : Good l c) (hz : zs.length ≤ 900) (hmiss : ("hhea" : Str) ∉ (tabsOf l c).map (·.1))
    (hq : ∀ h' frs' zs' n' more D ys m tk', Sl frs frs' → Fm hb L ns vs ((frs' ++ [(H, lsO (zs ++ zs') n')]) ++ (more ++ rest)) h' → (D, lsO ys m) ∈ more → Cps w more zs' (tabsOf l c) → zs'.length ≤ 10 → FN more ys ((wrongs l (recsD l c)).map sumF ++ findingsOf (tabsOf l c)) → Q (.ref D) ⟨h', g, d, tk', os⟩) :
    wpAny (Mo w) A (call (.ref 573) [.bytes l.toArray t₀, .ref rd]) Q E ⟨h, g, d, tk, os⟩ := by
  (wtm_at "pc")
  obtain ⟨oL, esL, epL, eL, dL⟩ := F.own
  (wtm_at "pu")
  have kb : Ext hb h := F.keep
  have fnd := F.nd
  rw [List.map_append, List.nodup_append] at fnd
  refine wpAny_call (callF (news := (L, oL) :: (frs ++ [(H, lsO zs n)])) (df_check_file w) W kb (fun p hp => ?_) ?_ R.room rfl fun L₁ h₁ tk₁ W₁ up F₁ => ?_)
  · rcases List.mem_cons.mp hp with rfl | hp
    · exact ⟨eL, F.selfNone⟩
    · exact ⟨(F.led p (List.mem_append_left _ hp)).1, (F.led p (List.mem_append_left _ hp)).2.2⟩
  · rw [List.map_cons, List.nodup_cons]
    refine ⟨fun q => ?_, fnd.1⟩
    (wtm_at "pc")
    obtain ⟨p, hp, e⟩ := List.mem_map.mp q
    (wtm_at "pu")
    exact (F.led p (List.mem_append_left _ hp)).2.1 e
  have Y := (df_check_file w).fi
  have F0 := F
  clear F
  have F := F₁
  have W := W₁
  clear F₁
  (wtm_at "f0")
  have hrd2 : RdAt (hideAll h (((L, oL) :: (frs ++ [(H, lsO zs n)])).map (·.1))) rd cc H := hrd
  refine wpAny_mono (E := fun _ _ => False) ?_ (fun _ _ q => q) (fun _ _ q => q.elim)
  have back : ∀ h' oL' frs' zs' n' more D ys m tk' vs', Sl frs frs' → oL'.data = oL.data → Fm (hideAll h (((L, oL) :: (frs ++ [(H, lsO zs n)])).map (·.1))) L₁ ["data", "read", "tables", "fault"] vs' ((L, oL') :: ((frs' ++ [(H, lsO (zs ++ zs') n')]) ++ more)) h' →
      (D, lsO ys m) ∈ more → Cps w more zs' (tabsOf l c) → zs'.length ≤ 10 → FN more ys ((wrongs l (recsD l c)).map sumF ++ findingsOf (tabsOf l c)) → Q (.ref D) ⟨h', g, d, tk', os⟩ := fun h' oL' frs' zs' n' more D ys m tk' vs' s hd G a b c e =>
    hq _ _ _ _ _ _ _ _ _ s (F0.after eL G (by simp [s.fst]) hd) a b c e
  refine wpAny_execs_cons ?_
  refine wpAny_Try_except ?_
  repeat (wtm_at "ev")
  refine read_directory_c (W.keeps F.keep) R.deep.le (by exact hh) G fun h2 a t od kvs t1 tk2 k ha et ft hd lo B => ?_
  replace F := F.fresh (cells := [(t, od)]) k (fun p hp => by obtain rfl := List.mem_singleton.mp hp; exact ⟨et, ft⟩) (by simp)
  repeat (wtm_at "ev")
  refine r_itemT (j := 1) ha (by decide) (by decide) (by rfl) (by rfl) ?_
  repeat (wtm_at "ev")
  refine check_sums_c (W.keeps F.keep) R.deep.le (by exact hh) G fun h3 Dw ysw epw tk3 k3 ew fw hsw => ?_
  replace F := F.fresh (cells := [(Dw, lsO ysw epw)]) k3 (fun p hp => by obtain rfl := List.mem_singleton.mp hp; exact ⟨ew, fw⟩) (by simp)
  have hwl := hsw.len
  have hwc := wrongs_len (l := l) (c := c)
  have few := G.few
  refine r_iterL F (Ls.of (F.get (.head _))) fun I h3 oI F3 st3 neI k3 => ?_
  obtain ⟨NE, hNE⟩ : ∃ NE, NE = [(Dw, lsO ysw epw)] ++ ([(t, od)] ++ (L, oL) :: (frs ++ [(H, lsO zs n)])) := ⟨_, rfl⟩
  rw [← hNE] at F3
  have mW : (Dw, lsO ysw epw) ∈ NE := by rw [hNE]; exact .head _
  refine comp_fin0 (nsC := ["tag"]) (cnsC := []) (gsC := [("Finding", .ref 456)]) (bsC := []) 0 En.fn rfl (Fi.of (by kernel_rfl)) (by decide +kernel) rfl (Walks.list (by exact hh) I Dw (Ne.symm neI) ysw.toArray) st_list
    (fun i ys news => ∃ more, news = more ++ NE ∧ FN more ys (((wrongs l (recsD l c)).take i).map sumF)) (fun b hb => ?_) rfl (by rw [sizeLine_eq]; simp; lia) W F3 st3 ⟨[], rfl, FN.nil⟩ ?_ ?_
  · rcases List.mem_cons.mp hb with rfl | q
    · exact .inl rfl
    · obtain rfl := List.mem_singleton.mp q
      refine .inr (.inr ⟨lsO ysw epw, fun i ys news j => ?_⟩)
      (wtm_at "pc")
      obtain ⟨more, rfl, _⟩ := j
      (wtm_at "pu")
      exact List.mem_append_right _ mW
  · intro hb' C D' i v ys news₁ h tk oI ep Y W' keep hi pv hJ0 F en
    (wtm_at "pc")
    obtain ⟨more, rfl, fn⟩ := hJ0
    (wtm_at "pu")
    have W := W'
    (wtm_at "fs")
    have hi' : i < (wrongs l (recsD l c)).length := by rw [← hwl]; simpa using hi
    obtain ⟨tt, rfl⟩ := hsw.at_ i v (wrongs l (recsD l c))[i] (by simpa using pv) (List.getElem?_eq_getElem hi')
    repeat (wtm_at "ev")
    refine Finding_new (W.keeps F.keep) R.deep.le fun h' x dx' es' n9 tk9 kx hn ne rep9 => ?_
    replace F := F.fresh kx hn (by simp [ne])
    refine ⟨_, _, _, _, rfl, F.perm (news' := (I, oI) :: (D', lsO ys ep) :: (((dx', dictOf es' n9) :: (x, instObj 456 dx') :: more) ++ NE)) ?_, _, rfl, ?_⟩
    · exact (List.perm_append_comm_assoc [(dx', dictOf es' n9), (x, instObj 456 dx')] [(I, oI), (D', lsO ys ep)] (more ++ NE))
    · rw [List.take_add_one, List.getElem?_eq_getElem hi', Option.toList_some, List.map_append]
      exact (fn.mono fun p hp => .tail _ (.tail _ hp)).append (FN.one (.tail _ (.head _)) (.head _) (rep9.of (by rfl)))
  · intro D2 ys2 news₁ h tk ep2 hJ0 F
    (wtm_at "pc")
    obtain ⟨more, rfl, fn⟩ := hJ0
    (wtm_at "pu")
    rw [List.size_toArray, hwl, List.take_length] at fn
    have F1 := F.perm (news' := ((((L, oL) :: frs) ++ [(H, lsO zs n)]) ++ ((D2, lsO ys2 ep2) :: (more ++ [(Dw, lsO ysw epw), (t, od)])))) (by
      rw [hNE]
      have a := List.perm_append_comm (l₁ := (D2, lsO ys2 ep2) :: (more ++ [(Dw, lsO ysw epw), (t, od)])) (l₂ := ((L, oL) :: frs) ++ [(H, lsO zs n)])
      simpa using a)
    clear F F3
    have F := F1
    clear F1
    repeat (wtm_at "ev")
    refine check_tables_c (kvs := kvs) (ps := tabsOf l c) W F R.deep.le (by exact hh) (Around.frames_deeper hA) rfl (by kernel_rfl) (.cons hf hkC dL hFr) hrd2 ⟨Heap.dictOf_iff.mpr ⟨od, F.restUp (p := (t, od)) (.tail _ (List.mem_append_right _ (.tail _ (.head _)))), hd⟩, lo⟩ B (by rw [B.length]; unfold tabsOf; rw [List.length_map, recsD_length]; lia) hz hmiss fun h' frs9 zs' n' more2 Fd ys3 m3 tk' s9 F9 mFd cps hz10 fn3 => ?_
    have hl2 := fn.len
    have hl3 := fn3.len
    rw [List.length_map] at hl2
    have hfl : (findingsOf (tabsOf l c)).length ≤ 1000 := fs_len (tabsOf l c) 8
    refine r_addL F9 (Ls.of (F9.get (List.mem_append_right _ (List.mem_append_right _ (.head _))))) (Ls.of (F9.get (List.mem_append_right _ (List.mem_append_left _ mFd)))) (by lia) fun x h10 F => ?_
    repeat (wtm_at "ev")
    obtain ⟨oL', frs', rfl, hdL, s'⟩ : ∃ oL' frs', frs9 = (L, oL') :: frs' ∧ oL'.data = oL.data ∧ Sl frs frs' := by
      cases s9 with
      | cons h s => exact ⟨_, _, rfl, h, s⟩
    refine back _ oL' frs' zs' n' ((x, lsO (ys2 ++ ys3) 0) :: (more2 ++ ((D2, lsO ys2 ep2) :: (more ++ [(Dw, lsO ysw epw), (t, od)])))) x _ 0 _ _ s' hdL (F.perm ?_) (.head _) (cps.mono fun p hp => .tail _ (List.mem_append_left _ hp)) hz10 ?_
    · exact (List.perm_middle (l₁ := ((L, oL') :: frs') ++ [(H, lsO (zs ++ zs') n')])).symm
    · exact (fn.mono fun p hp => .tail _ (List.mem_append_right _ (.tail _ (List.mem_append_left _ hp)))).append (fn3.mono fun p hp => .tail _ (List.mem_append_left _ hp))
end
namespace X
theorem mro_ba : mroOf (.type "bytearray") = pure [.type "bytearray", .type "object"] := by rw [mroOf_type]; kernel_rfl
theorem lookup_ba_new : typeLookup (.type "bytearray") "__new__" = pure (some (.builtin "bytearray.__new__")) := by rw [typeLookup_type, builtinLookup_eq_fast]; kernel_rfl
theorem slot_ba_init : Slot "bytearray" "__init__" "bytearray.__init__" := .of (owner := "bytearray") (n := "__init__") (by rw [typeLookup_type, builtinLookup_eq_fast]; kernel_rfl) (by decide +kernel) (by decide +kernel) (by decide +kernel)
  (by first | exact .inl (by decide +kernel) | exact .inr (by decide +kernel)) (by rw [isSubtype_type]; kernel_rfl)
theorem called_ba : TypeCalled "bytearray" "bytearray.__new__" "bytearray.__init__" :=
  ⟨by decide +kernel, by decide +kernel, ⟨_, _, mro_ba⟩, madeBy_type mro_ba lookup_ba_new (by decide +kernel), by decide +kernel, by rw [isSubtype_type]; kernel_rfl, slot_ba_init⟩
theorem typeCall_ba : checkTypeCall "bytearray" ⟨[], []⟩ = pure () := by kernel_rfl
theorem newCall_ba : checkBuiltinCall "bytearray.__new__" ⟨[.type "bytearray"], []⟩ = pure () := by kernel_rfl
theorem entry_ba_new : entryFor table "bytearray.__new__" = some Builtin.«list.__new__» := entryFor_alias (id' := "list.__new__") (by kernel_rfl) (by decide +kernel) (by decide +kernel) (by kernel_rfl)
theorem entry_ba_init : entryFor table "bytearray.__init__" = some Builtin.«bytearray.__init__» := entryFor_of_tree (by kernel_rfl)
theorem args_ba_init (a : Value) : argsOk "bytearray.__init__" ⟨[a], []⟩ := by unfold argsOk; kernel_rfl
theorem plain_ba_new : plainId "bytearray.__new__" = true := by decide +kernel
theorem sub_ba : isSubtype (.type "bytearray") (.type "bytearray") = pure true := by rw [isSubtype_type]; kernel_rfl
theorem owner_ba : ("bytearray.__new__".splitOn ".__new__").headD "" = "bytearray" := by simp +decide [String.splitOn, String.splitOnAux]
theorem lk_release : typeLookup (.type "bytearray") ("__release_buffer__" : String) = pure (some (.builtin "bytearray.__release_buffer__")) := by rw [typeLookup_type, builtinLookup_eq_fast]; kernel_rfl
theorem bind_ba : Builtin.Bytes.bindOptional "bytearray.__init__" "bytearray" ["source", "encoding", "errors"] [] [] = pure [none, none, none] := by kernel_rfl
theorem ends_release : ("bytearray.__release_buffer__".endsWith ("." ++ "__release_buffer__")) = true := by decide +kernel
theorem drop_release : "bytearray.__release_buffer__".dropRight ("__release_buffer__".length + 1) = "bytearray" := by decide +kernel
end X
noncomputable abbrev baO (l : List UInt8) : Obj := { cls := .type "bytearray", data := .bytearray l.toArray }
section
variable {w : World} {A : Around} {E : Value → Shared → Prop} {R : Flow → Shared → Prop} {h₀ hb h : Heap} {g : Array GenState} {d : Drawn} {t tk : Nat} {os : OsState} {L x : Addr} {mg mb : Str → Option Value} {mean : ExcName → Option Value} {ns : List Str} {vs : List (Option Value)} {news : List (Addr × Obj)} {s : Shared} {l m : List UInt8}
theorem codeR_builtin {id : String} {args : Args} {b : Builtin} (o : okc (.builtin id args) = true) (hb : entryFor table id = some b) (h : wpR (Mo w) (A.under (.builtin id args)) (b args) (finR (Mo w) A R) s) : codeR (Mo w) A (.builtin id args) R s := by
  refine codeR_tree o ?_
  show wpR _ _ (match entryFor table id with | some b => b args | none => unsupported ((withoutEnding? id "#data").getD id)) _ s
  rw [hb]; exact h
theorem ba_new {Q₁ : Value → Shared → Prop} (hq : Q₁ (.ref h.objs.size) ⟨h.push (baO []), g, d, tk, os⟩) :
    codeAny (Mo w) A (.call (.builtin "bytearray.__new__") ⟨[.type "bytearray"], []⟩) (wants Q₁ E) ⟨h, g, d, tk, os⟩ := by
  refine codeAny_of_tree ?_
  show wpAny _ A.in1 (do checkBuiltinCall "bytearray.__new__" ⟨[.type "bytearray"], []⟩; again (.builtin "bytearray.__new__" ⟨[.type "bytearray"], []⟩)) _ _ _
  refine wpAny_bind (wpAny_of_eq X.newCall_ba (wpAny_pure ⟨plainId_quiet X.plain_ba_new _, codeAny_builtin_stack X.entry_ba_new rfl fun p st => ?_⟩))
  rw [Around.under_plainId X.plain_ba_new _]
  have hsub := X.sub_ba
  have hown := X.owner_ba
  simp only [hown]
  wp_walk
  exact hq
theorem not_exp (hx : h.get? x = some (baO l)) : wpR (Mo w) A (Builtin.Bytes.exported (Value.ref x) <||> do
                    let __do_lift ← Builtin.Bytes.exportsOf (Value.ref x)
                    pure (decide (__do_lift > 0))) (fun b s' => b = false ∧ s' = ⟨h, g, d, tk, os⟩) ⟨h, g, d, tk, os⟩ := by
  refine wpR_bind (wpR_exported ?_)
  show wpR _ _ (Builtin.Bytes.exportsOf (Value.ref x) >>= fun n => pure (decide (n > 0))) _ _
  refine wpR_step ?_
  unfold Builtin.Bytes.exportsOf
  refine wpAny_bind (wpAny_load hx ?_)
  exact wpAny_pure (wpR_pure ⟨rfl, rfl⟩)
theorem ba_write {f : Array UInt8 → Array UInt8} {m : List UInt8} {Q : Unit → Shared → Prop} (hx : h.get? x = some (baO l)) (hf : f l.toArray = m.toArray) (hm : m.length ≤ 10000) (hq : ∀ h', Heap.SameBut x h h' → h'.get? x = some (baO m) → Q () ⟨h', g, d, tk, os⟩) :
    wpAny (Mo w) A (Builtin.Bytes.write (.ref x) f) Q E ⟨h, g, d, tk, os⟩ := by
  show wpAny _ _ (updateBytearray x f) _ _ _
  unfold updateBytearray
  refine wpAny_bind (wpAny_load hx ?_)
  have hx2 : (h.update x (Obj.mapBytearray f)).get? x = some (baO m) := by
    have e : Obj.mapBytearray f (baO l) = baO m := by show Obj.mk _ _ (Data.bytearray (f l.toArray) _) _ = _; rw [hf]
    rw [← e]
    exact Heap.get?_update_self _ hx (by rw [e]; rfl)
  refine wpAny_bind (wpAny_update hx ?_)
  refine wpAny_lookBehind hx2 (if_neg (by rw [List.size_toArray, sizeLine_eq]; lia)) ?_
  exact hq _ (Heap.SameBut.update _ _ _) hx2
theorem ba_init {Q : Fin → Shared → Prop} (hx : h.get? x = some (baO [])) (hq : ∀ h', Heap.SameBut x h h' → h'.get? x = some (baO []) → Q (.done (.ret .none)) ⟨h', g, d, tk, os⟩) :
    wpR (Mo w) A (Builtin.«bytearray.__init__» ⟨[.ref x], []⟩) Q ⟨h, g, d, tk, os⟩ := by
  unfold Builtin.«bytearray.__init__»
  (try dsimp only)
  have hT : (⟨h, g, d, tk, os⟩ : Shared).TypeIs (.ref x) "bytearray" := ⟨_, hx, rfl⟩
  refine wpR_step ?_
  unfold Builtin.Bytes.ownRelease Builtin.Bytes.slotIsOwn
  refine wpAny_bind (wpAny_bind (wpAny_specialOf hT X.lk_release ?_))
  (try dsimp only)
  rw [X.ends_release, if_neg (by decide), X.drop_release]
  refine wpAny_isInstance (T := "bytearray") hT X.sub_ba (wpAny_pure ?_)
  refine wpR_eq (if_neg (by decide)) ?_
  refine wpR_step (wpAny_of_eq X.bind_ba ?_)
  (try dsimp only)
  refine wpR_step (wpAny_of_eq (a := ()) rfl ?_)
  refine wpR_step (wpAny_of_eq (a := ()) rfl ?_)
  refine wpR_bind (wpR_mono (not_exp hx) fun b s' hb => ?_)
  obtain ⟨rfl, rfl⟩ := hb
  refine wpR_eq (if_neg Bool.false_ne_true) ?_
  refine wpR_step (ba_write (m := []) hx rfl (by simp) fun h' sb e => ?_)
  exact wpR_pure (hq _ sb e)
end
section
variable {w : World} {A : Around} {E : Value → Shared → Prop} {R : Flow → Shared → Prop} {h₀ hb h : Heap} {g : Array GenState} {d : Drawn} {t tk : Nat} {os : OsState} {L x : Addr} {mg mb : Str → Option Value} {mean : ExcName → Option Value} {ns : List Str} {vs : List (Option Value)} {news : List (Addr × Obj)} {s : Shared} {l m : List UInt8}
theorem R_callB {id : String} {args : List Value} {B : Builtin} {Q : Value → Shared → Prop} (o : okc (.builtin id ⟨args, []⟩) = true) (pl : plainId id = true) (en : entryFor table id = some B)
    (hc : wpAny (Mo w) A.in1 (checkBuiltinCall id ⟨args, []⟩) (fun _ s' => wpR (Mo w) A.in1 (B ⟨args, []⟩) (fun fin s' => ∃ v, fin = .done (.ret v) ∧ Q v s') s') (fun _ _ => False) s) : wpR (Mo w) A (call (.builtin id) args) Q s := by
  refine wpR_call (codeR_tree rfl ?_)
  show wpR _ A.in1 (do checkBuiltinCall id ⟨args, []⟩; again (.builtin id ⟨args, []⟩)) _ _
  refine wpR_step (wpAny_mono hc (fun _ s' q => wpR_pure ⟨plainId_quiet pl _, codeR_builtin o en ?_⟩) fun _ _ x => x)
  rw [Around.under_plainId pl _]
  refine wpR_mono q fun fin s2 z => ?_
  (wtm_at "pc")
  obtain ⟨v, rfl, z⟩ := z
  (wtm_at "pu")
  exact z
theorem ba_made {Q : Value → Shared → Prop} (F : Fm h₀ L ns vs news h) (hq : ∀ x h', Fm h₀ L ns vs ((x, baO []) :: news) h' → Ext h h' → Q (.ref x) ⟨h', g, d, tk, os⟩) : wpR (Mo w) A (call (.type "bytearray") []) Q ⟨h, g, d, tk, os⟩ := by
  have ft := X.called_ba
  have hmro := X.mro_ba
  have hmade := ft.made
  have hsub := ft.sub
  have h2 := ft.canCreate
  have h3 := X.typeCall_ba
  refine wpR_call (codeR_tree rfl ?_)
  show wpR _ A.in1 (callAny (.type "bytearray") ⟨[], []⟩) _ _
  refine wpR_pure ⟨Code.quiet_builtin _ (by decide +kernel), codeR_builtin (by decide +kernel) PySem.F.entry_type_call ?_⟩
  rw [Around.under_plain (weight_type_call_type "bytearray" [] []) rfl]
  unfold Builtin.«type.__call__»
  (try dsimp only)
  refine wpR_eq (if_neg (by decide)) ?_
  refine wpR_eq (if_neg fun q => by have := h2.symm.trans q; cases this) ?_
  refine wpR_step (wpAny_of_eq h3 ?_)
  refine wpR_step (wpAny_of_eq hmro ?_)
  refine wpR_eq (if_neg (by decide)) ?_
  refine wpR_step (wpAny_of_eq hmade ?_)
  (try dsimp only)
  refine wpR_step (wpAny_pure ?_)
  refine wpR_step (wpAny_holding (wpAny_call (codeAny_mono (ba_new (Q₁ := fun v s' => v = .ref h.objs.size ∧ s' = ⟨h.push (baO []), g, d, tk, os⟩) (E := fun _ _ => False) ⟨rfl, rfl⟩) fun r s' z => ?_)))
  rcases r with e | (v | _ | _ | _) <;> first | exact z.elim | skip
  obtain ⟨rfl, rfl⟩ := z
  have F1 := F.push (baO [])
  have hx := F1.get (.head _)
  have hT : (⟨h.push (baO []), g, d, tk, os⟩ : Shared).TypeIs (.ref h.objs.size) "bytearray" := ⟨_, hx, rfl⟩
  (try dsimp only)
  refine wpR_step (wpAny_isInstance (T := "bytearray") hT hsub ?_)
  refine wpR_eq (if_neg (by decide)) ?_
  refine wpR_bind (wpR_holding ?_)
  unfold callSpecial?
  refine wpR_step (wpAny_specialOf hT X.slot_ba_init.lookup ?_)
  (try dsimp only)
  refine wpR_holding (wpR_step (wpAny_of_eq (X.slot_ba_init.bind _) ?_))
  refine wpR_bind (R_callB (show (!lentIds.contains "bytearray.__init__") = true by decide +kernel) X.slot_ba_init.plain X.entry_ba_init (X.slot_ba_init.check _ _ _ _ _ _ _ _ hT (X.args_ba_init _) (ba_init hx fun h' sb e => ⟨_, rfl, ?_⟩)))
  refine wpR_pure ?_
  (try dsimp only)
  refine wpR_eq (if_neg (by decide)) (wpR_pure ?_)
  exact hq _ _ (F1.mutH sb.extBut e) fun b o q => sb.extBut b o (Nat.ne_of_lt (Heap.lt_size q)) (Heap.get?_push_of_some _ q)
end
namespace X
theorem lk_buffer : typeLookup (.type "bytes") ("__buffer__" : String) = pure (some (.builtin "bytes.__buffer__")) := by rw [typeLookup_type, builtinLookup_eq_fast]; kernel_rfl
theorem ends_buffer : ("bytes.__buffer__".endsWith ("." ++ "__buffer__")) = true := by decide +kernel
theorem drop_buffer : "bytes.__buffer__".dropRight ("__buffer__".length + 1) = "bytes" := by decide +kernel
theorem sub_bytes : isSubtype (.type "bytes") (.type "bytes") = pure true := by rw [isSubtype_type]; kernel_rfl
theorem slot_ba_extend : Slot "bytearray" "extend" "bytearray.extend" := .of (owner := "bytearray") (n := "extend") (by rw [typeLookup_type, builtinLookup_eq_fast]; kernel_rfl) (by decide +kernel) (by decide +kernel) (by decide +kernel)
  (by first | exact .inl (by decide +kernel) | exact .inr (by decide +kernel)) (by rw [isSubtype_type]; kernel_rfl)
theorem entry_ba_extend : entryFor table "bytearray.extend" = some Builtin.«bytearray.extend» := entryFor_of_tree (by kernel_rfl)
theorem args_ba_extend (a b : Value) : argsOk "bytearray.extend" ⟨[a, b], []⟩ := by unfold argsOk; kernel_rfl
theorem lk_relB : typeLookup (.type "bytes") ("__release_buffer__" : String) = pure none := by rw [typeLookup_type, builtinLookup_eq_fast]; kernel_rfl
end X
section
variable {w : World} {A : Around} {E : Value → Shared → Prop} {R : Flow → Shared → Prop} {h₀ hb h : Heap} {g : Array GenState} {d : Drawn} {t tk : Nat} {os : OsState} {L x : Addr} {mg mb : Str → Option Value} {mean : ExcName → Option Value} {ns : List Str} {vs : List (Option Value)} {news : List (Addr × Obj)} {s : Shared} {l m : List UInt8}
theorem take_bytes {id : String} {tt : Tok} {Q : Option (Array UInt8 × Option Value) → Shared → Prop} (hq : Q (some (m.toArray, none)) s) : wpAny (Mo w) A (Builtin.Bytes.takeBufferQuiet? id (.bytes m.toArray tt) 0) Q E s := by
  have hT : s.TypeIs (.bytes m.toArray tt) "bytes" := typeIs_bytes _ _ _
  unfold Builtin.Bytes.takeBufferQuiet? Builtin.Bytes.takeBuffer? Builtin.Bytes.slotIsOwn
  refine wpAny_bind (wpAny_attempt ?_)
  refine wpAny_bind (wpAny_specialOf hT X.lk_buffer ?_)
  (try dsimp only)
  refine wpAny_bind (wpAny_bind (wpAny_specialOf hT X.lk_buffer ?_))
  (try dsimp only)
  rw [X.ends_buffer, if_neg (by decide), X.drop_buffer]
  refine wpAny_isInstance (T := "bytes") hT X.sub_bytes ?_
  rw [if_neg (by decide)]
  refine wpAny_bind (wpAny_specialOf hT X.lk_buffer ?_)
  refine wpAny_bind ?_
  unfold Builtin.Bytes.buffer? Builtin.Bytes.slotIsOwn Builtin.Bytes.ownRelease Builtin.Bytes.slotIsOwn
  refine wpAny_bind (wpAny_specialOf hT X.lk_buffer ?_)
  (try dsimp only)
  refine wpAny_bind (wpAny_bind (wpAny_specialOf hT X.lk_buffer ?_))
  (try dsimp only)
  rw [X.ends_buffer, if_neg (by decide), X.drop_buffer]
  refine wpAny_isInstance (T := "bytes") hT X.sub_bytes ?_
  rw [if_neg (by decide)]
  refine wpAny_bind (wpAny_specialOf hT X.lk_buffer ?_)
  refine wpAny_bind (wpAny_bind (wpAny_bind (wpAny_specialOf hT X.lk_relB ?_)))
  refine wpAny_pure (wpAny_pure ?_)
  rw [if_neg (by decide)]
  refine wpAny_bind (wpAny_of_eq (a := m.toArray) rfl (wpAny_pure ?_))
  exact wpAny_pure (wpAny_pure hq)
theorem ba_extend {tt : Tok} {Q : Fin → Shared → Prop} (hx : h.get? x = some (baO l)) (hn : l.length + m.length ≤ 10000) (hq : ∀ h', Heap.SameBut x h h' → h'.get? x = some (baO (l ++ m)) → Q (.done (.ret .none)) ⟨h', g, d, tk, os⟩) :
    wpR (Mo w) A (Builtin.«bytearray.extend» ⟨[.ref x, .bytes m.toArray tt], []⟩) Q ⟨h, g, d, tk, os⟩ := by
  have hT : (⟨h, g, d, tk, os⟩ : Shared).TypeIs (.bytes m.toArray tt) "bytes" := typeIs_bytes _ _ _
  unfold Builtin.«bytearray.extend»
  refine wpR_step (wpAny_of_eq (a := (Value.ref x, Value.bytes m.toArray tt)) (by rfl) ?_)
  (try dsimp only)
  refine wpR_step (wpAny_specialOf hT X.lk_buffer ?_)
  refine wpR_eq (if_pos (by rfl)) ?_
  refine wpR_step (wpAny_rule ?_)
  have hpay : wpAny (Mo w) A (Builtin.Bytes.payload (.ref x)) (fun b s' => b = l.toArray ∧ s' = ⟨h, g, d, tk, os⟩) (fun _ _ => False) ⟨h, g, d, tk, os⟩ := by
    unfold Builtin.Bytes.payload Builtin.Bytes.payload?
    refine wpAny_bind (wpAny_bind (wpAny_load hx ?_))
    exact wpAny_pure (wpAny_pure ⟨rfl, rfl⟩)
  refine wpR_step (wpAny_mono hpay (fun b s' z => ?_) fun _ _ x => x)
  obtain ⟨rfl, rfl⟩ := z
  refine wpR_step (take_bytes ?_)
  (try dsimp only)
  refine wpR_eq (if_pos (by rfl)) ?_
  show wpR _ _ (if (!m.toArray.isEmpty) = true then _ else _) _ _
  have tl : wpR (Mo w) A (do Builtin.Bytes.write (Value.ref x) fun x => x ++ m.toArray; ret Value.none) Q ⟨h, g, d, tk, os⟩ :=
    wpR_step (ba_write (m := l ++ m) hx (by simp) (by simp; lia) fun h' sb e => wpR_pure (hq _ sb e))
  by_cases c : (!m.toArray.isEmpty) = true
  · refine wpR_eq (if_pos c) (wpR_bind ?_)
    unfold Builtin.Bytes.checkResize
    refine wpR_bind (wpR_mono (not_exp hx) fun b s' hb => ?_)
    obtain ⟨rfl, rfl⟩ := hb
    refine wpR_eq (if_neg Bool.false_ne_true) (wpR_pure ?_)
    exact tl
  · exact wpR_eq (if_neg c) tl
theorem R_extend {tt : Tok} {Q : Value → Shared → Prop} (F : Fm h₀ L ns vs ((x, baO l) :: news) h) (hn : l.length + m.length ≤ 10000) (hq : ∀ h', Fm h₀ L ns vs ((x, baO (l ++ m)) :: news) h' → Q .none ⟨h', g, d, tk, os⟩) :
    wpR (Mo w) A (call (.builtin "bytearray.extend") [.ref x, .bytes m.toArray tt]) Q ⟨h, g, d, tk, os⟩ := by
  have hx := F.get (.head _)
  have hT : (⟨h, g, d, tk, os⟩ : Shared).TypeIs (.ref x) "bytearray" := ⟨_, hx, rfl⟩
  exact R_callB (show (!lentIds.contains "bytearray.extend") = true by decide +kernel) X.slot_ba_extend.plain X.entry_ba_extend (X.slot_ba_extend.check _ _ _ _ _ _ _ _ hT (X.args_ba_extend _ _) (ba_extend hx hn fun h' sb e => ⟨_, rfl, hq _ (F.mutH sb.extBut e)⟩))
end
namespace X
theorem ba_no_bytes : typeLookup (.type "bytearray") "__bytes__" = pure none := by rw [typeLookup_type, builtinLookup_eq_fast]; kernel_rfl
theorem ba_no_index : typeLookup (.type "bytearray") "__index__" = pure none := by rw [typeLookup_type, builtinLookup_eq_fast]; kernel_rfl
theorem ba_buffer : typeLookup (.type "bytearray") ("__buffer__" : String) = pure (some (.builtin "bytearray.__buffer__")) := by rw [typeLookup_type, builtinLookup_eq_fast]; kernel_rfl
theorem ends_baBuffer : ("bytearray.__buffer__".endsWith ("." ++ "__buffer__")) = true := by decide +kernel
theorem drop_baBuffer : "bytearray.__buffer__".dropRight ("__buffer__".length + 1) = "bytearray" := by decide +kernel
theorem plain_ba : PlainAttrs "bytearray" := ⟨⟨"bytearray.__getattribute__", by rw [typeLookup_type, builtinLookup_eq_fast]; kernel_rfl, by decide +kernel⟩, by rw [typeLookup_type, builtinLookup_eq_fast]; kernel_rfl⟩
end X
section
variable {w : World} {A : Around} {E : Value → Shared → Prop} {R : Flow → Shared → Prop} {h₀ hb h h' : Heap} {g : Array GenState} {d : Drawn} {t tk : Nat} {os : OsState} {L x C dx ba : Addr} {mg mb : Str → Option Value} {mean : ExcName → Option Value} {ns cns : List Str} {vs : List (Option Value)} {cl : List (Str × Addr)} {gs bs : List (Str × Value)} {cs : Scope} {news rest : List (Addr × Obj)} {s : Shared} {l m : List UInt8}
  {pos : Pos} {env : Env}
theorem own_release (hx : h.get? x = some (baO l)) {Q : Bool → Shared → Prop} (hq : Q false ⟨h, g, d, tk, os⟩) : wpAny (Mo w) A (Builtin.Bytes.ownRelease (.ref x)) Q E ⟨h, g, d, tk, os⟩ := by
  have hT : (⟨h, g, d, tk, os⟩ : Shared).TypeIs (.ref x) "bytearray" := ⟨_, hx, rfl⟩
  unfold Builtin.Bytes.ownRelease Builtin.Bytes.slotIsOwn
  refine wpAny_bind (wpAny_bind (wpAny_specialOf hT X.lk_release ?_))
  (try dsimp only)
  rw [X.ends_release, if_neg (by decide), X.drop_release]
  exact wpAny_isInstance (T := "bytearray") hT X.sub_ba (wpAny_pure hq)
theorem bytes_ba_new {Q : Value → Shared → Prop} (hx : h.get? x = some (baO l)) (hn : l.length ≤ 10000) (hq : Q (.bytes l.toArray tk) ⟨h, g, d, tk + 1, os⟩) :
    codeAny (Mo w) A (.call (.builtin "bytes.__new__") ⟨[.type "bytes", .ref x], []⟩) (wants Q E) ⟨h, g, d, tk, os⟩ := by
  refine codeAny_of_tree ?_
  show wpAny _ A.in1 (do checkBuiltinCall "bytes.__new__" ⟨[.type "bytes", .ref x], []⟩; again (.builtin "bytes.__new__" ⟨[.type "bytes", .ref x], []⟩)) _ _ _
  refine wpAny_bind (wpAny_of_eq (F.bm_newCall _) (wpAny_pure ⟨plainId_quiet F.bm_plain _, codeAny_builtin F.bm_entry ?_⟩))
  rw [Around.under_plainId F.bm_plain _]
  have hT : (⟨h, g, d, tk, os⟩ : Shared).TypeIs (.ref x) "bytearray" := ⟨_, hx, rfl⟩
  unfold Builtin.«bytes.__new__»
  refine wpAny_bind (wpAny_of_eq (a := true) rfl ?_)
  refine bm_if_false rfl ?_
  refine wpAny_bind (wpAny_of_eq F.bm_sub ?_)
  refine bm_if_false rfl ?_
  refine wpAny_bind (wpAny_of_eq (F.bm_bind _) ?_)
  refine wpAny_bind (wpAny_of_eq (a := ()) rfl ?_)
  refine wpAny_bind (wpAny_of_eq (a := ()) rfl ?_)
  refine bm_if_false rfl ?_
  refine wpAny_bind (wpAny_specialOf hT X.ba_no_bytes ?_)
  refine wpAny_bind (wpAny_bind ?_)
  show wpAny _ _ (load x >>= _) _ _ _
  refine wpAny_bind (wpAny_load hx ?_)
  refine wpAny_pure (wpAny_pure ?_)
  refine bm_if_false rfl ?_
  refine wpAny_bind (wpAny_specialOf hT X.ba_no_index ?_)
  refine bm_if_true rfl ?_
  first
    | show wpAny _ _ (Builtin.Bytes.buffer? "bytes.__new__" (.ref x) true >>= _) _ _ _
    | (refine wpAny_bind ?_; show wpAny _ _ (Builtin.Bytes.buffer? "bytes.__new__" (.ref x) true >>= _) _ _ _)
  refine wpAny_bind ?_
  unfold Builtin.Bytes.buffer? Builtin.Bytes.slotIsOwn
  refine wpAny_bind (wpAny_specialOf hT X.ba_buffer ?_)
  (try dsimp only)
  refine wpAny_bind (wpAny_bind (wpAny_specialOf hT X.ba_buffer ?_))
  (try dsimp only)
  rw [X.ends_baBuffer, if_neg (by decide), X.drop_baBuffer]
  refine wpAny_isInstance (T := "bytearray") hT X.sub_ba ?_
  rw [if_neg (by decide)]
  refine wpAny_bind (wpAny_specialOf hT X.ba_buffer ?_)
  refine wpAny_bind (own_release hx ?_)
  rw [if_neg (by decide)]
  refine wpAny_bind ?_
  unfold Builtin.Bytes.payload Builtin.Bytes.payload?
  refine wpAny_bind (wpAny_bind (wpAny_load hx ?_))
  refine wpAny_pure (wpAny_pure (wpAny_pure ?_))
  (try dsimp only)
  refine wpAny_bind (wpAny_rule ?_)
  refine wpAny_bind (wpAny_mkBytes ?_ (by rw [List.size_toArray, sizeLine_eq]; lia))
  exact wpAny_pure hq
theorem bytes_ba {Q : Value → Shared → Prop} (hx : h.get? x = some (baO l)) (hn : l.length ≤ 10000) (hq : Q (.bytes l.toArray tk) ⟨h, g, d, tk + 1, os⟩) : wpAny (Mo w) A (call (.type "bytes") [.ref x]) Q E ⟨h, g, d, tk, os⟩ := by
  refine callType_codes (Q₁ := fun obj s₁ => s₁.TypeIs obj "bytes" ∧ Q obj s₁) F.bm_called (F.bm_typeCall _) F.entry_object_init
    (bytes_ba_new hx hn ⟨PySem.W.typeIs_bytes _ _ _, hq⟩) fun obj s₁ h₁ => ?_
  exact ⟨h₁.1, F.args_object_init_2 obj _, object_init_meets F.bm_called.init.lookup F.bm_called.made (by decide) pw w A.in1 _ s₁ ⟨h₁.1, rfl, h₁.2⟩⟩
theorem Fm.turnedL {L' : Addr} {ns' : List Str} {vs' : List (Option Value)} {hid hid' more : List (Addr × Obj)} (F : Fm h₀ L ns vs (hid ++ rest) h) (G : Fm (hideAll h (hid.map (·.1))) L' ns' vs' (hid' ++ more) h') (hm : hid'.map (·.1) = hid.map (·.1)) :
    Fm h₀ L ns vs (hid' ++ rest) h' := by
  (wtm_at "pc")
  obtain ⟨m, f, l⟩ := F.fr
  (wtm_at "pu")
  have fnd := F.nd
  rw [List.map_append, List.nodup_append] at fnd
  (wtm_at "pc")
  obtain ⟨oL, es, ep, eL, dL⟩ := F.own
  (wtm_at "pu")
  have notin : ∀ b, b ∉ hid.map (·.1) → ∀ o, h.get? b = some o → h'.get? b = some o := fun b hb o e => G.keep _ _ (hideAll_get _ e hb)
  have hL : L ∉ hid.map (·.1) := fun z => by
    (wtm_at "pc")
    obtain ⟨p, hp, e⟩ := List.mem_map.mp z
    (wtm_at "pu")
    exact (F.led p (List.mem_append_left _ hp)).2.1 e
  refine ⟨⟨m, ⟨ns_data f.ns eL (notin L hL _ eL) rfl, fun b o q => notin b (fun z => ?_) o (f.keep _ _ q), f.above⟩, l⟩, fun p hp => ?_, ?_⟩
  · (wtm_at "pc")
    obtain ⟨p, hp, rfl⟩ := List.mem_map.mp z
    (wtm_at "pu")
    rw [(F.led p (List.mem_append_left _ hp)).2.2] at q; cases q
  · rcases List.mem_append.mp hp with hp | hp
    · have : p.1 ∈ hid.map (·.1) := hm ▸ List.mem_map.mpr ⟨p, hp, rfl⟩
      (wtm_at "pc")
      obtain ⟨q, hq, e⟩ := List.mem_map.mp this
      (wtm_at "pu")
      have P := F.led q (List.mem_append_left _ hq)
      rw [e] at P
      exact ⟨(G.led p (List.mem_append_left _ hp)).1, P.2⟩
    · have P := F.led p (List.mem_append_right _ hp)
      exact ⟨notin p.1 (fun z => fnd.2.2 _ z _ (List.mem_map.mpr ⟨p, hp, rfl⟩) rfl) _ P.1, P.2⟩
  · rw [List.map_append, hm, ← List.map_append]; exact F.nd
noncomputable def RMeth (w : World) (A : Around) (nm : Str) (k : Value → List Value → Shared → Prop) (ov : Value) (s₁ : Shared) : Prop := ∃ f first, (∀ (pl : Sem Bool) (Q : Value × List Value → Shared → Prop) (E : Value → Shared → Prop), Q (f, first) s₁ → wpAny (Mo w) A (getMethod ov nm pl) Q E s₁) ∧ k f first s₁
theorem RMeth.extend {k : Value → List Value → Shared → Prop} (e : s.heap.get? x = some (baO l)) (q : k (.builtin "bytearray.extend") [.ref x] s) : RMeth w A "extend" k (.ref x) s :=
  ⟨_, _, fun _ _ _ q => getMethod_builtin (T := "bytearray") ⟨_, e, rfl⟩ X.plain_ba X.slot_ba_extend (by kernel_rfl) (fun a ha => by cases ha; exact ⟨_, e, rfl⟩) q, q⟩
theorem RMeth.inst {nm : Str} {fs : List (Str × Value)} {f : Addr} {k : Value → List Value → Shared → Prop} (W : Wd w mg mb mean h₀) (F : Fm h₀ L ns vs news h) (I : At h x C fs) (hc : (C, nm, f) ∈ mtab) (hl : fs.lookup nm = none) (q : k (.ref f) [.ref x] ⟨h, g, d, tk, os⟩) : RMeth w A nm k (.ref x) ⟨h, g, d, tk, os⟩ :=
  ⟨_, _, fun _ _ _ q => r_getM W F I hl (mtab_at hc) q, q⟩
theorem R_callA {Q : Value → Shared → Prop} {o : Expr} {as : List Expr} {nm : Str} {apos : Pos}
    (h : wpAny (Mo w) A (eval o env) (fun ov s₁ => RMeth w A nm (fun f first s₁ => wpR (Mo w) A (callWith pos f first (backTo pos (starEach as env)) []) Q s₁) ov s₁) (fun _ _ => False) s)
    (he : eval (.Call (.Attribute o nm apos) as [] pos) env = (do
      let ov ← eval o env
      standAt apos.atName
      let (f, first) ← holding [ov] (getMethod ov nm pl)
      callWith pos f first (backTo pos (starEach as env)) (backToKw pos (keywordEach [] env))) := by rfl) :
    wpR (Mo w) A (eval (.Call (.Attribute o nm apos) as [] pos) env) Q s := by
  refine wpR_eq he (wpR_step (wpAny_mono h (fun ov s₁ q => ?_) fun _ _ x => x))
  (wtm_at "pc")
  obtain ⟨f, first, hm, q⟩ := q
  (wtm_at "pu")
  exact wpR_step (wpAny_standAt (wpR_step (wpAny_holding (hm _ _ _ q))))
theorem R_callName {Q : Value → Shared → Prop} {id : Str} {p : Pos} {as : List Expr}
    (h : wpAny (Mo w) A (eval (.Name id p) env) (fun f s₁ => wpR (Mo w) A (callWith pos f [] (backTo pos (starEach as env)) []) Q s₁) (fun _ _ => False) s) :
    wpR (Mo w) A (eval (.Call (.Name id p) as [] pos) env) Q s := by
  show wpR _ A (do callWith pos (← eval (.Name id p) env) [] (backTo pos (starEach as env)) (backToKw pos (keywordEach [] env))) Q s
  exact wpR_step h
theorem R_cwB {Q : Value → Shared → Prop} {id : String} {first : List Value} {e : Expr} {as : List Expr}
    (h : wpAny (Mo w) A (spliced (backTo pos (starEach (e :: as) env))) (fun ws s₂ => wpR (Mo w) A (call (.builtin id) (first ++ ws)) Q s₂) (fun _ _ => False) s)
    (he : starEach (e :: as) env = (false, eval e env) :: starEach as env := by rfl) (hp : (backTo pos (starEach as env)).any (·.1) = false := by rfl) :
    wpR (Mo w) A (callWith pos (.builtin id) first (backTo pos (starEach (e :: as) env)) []) Q s := by
  rw [he] at h ⊢
  exact R_callWith (P := fun _ => True) (by show ((false || (backTo pos (starEach as env)).any (·.1)) || false) = false; rw [hp]; rfl) (fun _ _ => ⟨.machine, .inr (.inl rfl), .now⟩) (PySem.Calls.evalArgs_plain (wpAny_mono h (fun ws s₂ q => ⟨trivial, rfl, q⟩) fun _ _ x => x))
theorem R_cwK {Q : Value → Shared → Prop} {f : Addr} {first : List Value} {e : Expr} {as : List Expr} (W : Wd w mg mb mean h₀) (hk : keepIn (K w.params) (.ref f) = true)
    (h : wpAny (Mo w) A (spliced (backTo pos (starEach (e :: as) env))) (fun ws s₂ => Ext h₀ s₂.heap ∧ wpR (Mo w) A (call (.ref f) (first ++ ws)) Q s₂) (fun _ _ => False) s)
    (he : starEach (e :: as) env = (false, eval e env) :: starEach as env := by rfl) (hp : (backTo pos (starEach as env)).any (·.1) = false := by rfl) :
    wpR (Mo w) A (callWith pos (.ref f) first (backTo pos (starEach (e :: as) env)) []) Q s := by
  rw [he] at h ⊢
  exact R_callWith (P := (K w.params).In) (by show ((false || (backTo pos (starEach as env)).any (·.1)) || false) = false; rw [hp]; rfl) (keeps_K hk) (PySem.Calls.evalArgs_plain (wpAny_mono h (fun ws s₂ q => ⟨W.k.keeps q.1, rfl, q.2⟩) fun _ _ x => x))
theorem R_cwK0 {Q : Value → Shared → Prop} {f : Addr} {first : List Value} (X : (K w.params).In s.heap) (hk : keepIn (K w.params) (.ref f) = true)
    (h : wpR (Mo w) A (call (.ref f) (first ++ [])) Q s) :
    wpR (Mo w) A (callWith pos (.ref f) first (backTo pos (starEach [] env)) []) Q s :=
  R_callWith (P := (K w.params).In) rfl (keeps_K hk) (evalArgs_nil3 ⟨X, rfl, h⟩)
theorem R_cwT0 {Q : Value → Shared → Prop} {T : String} {first : List Value} (h : wpR (Mo w) A (call (.type T) (first ++ [])) Q s) :
    wpR (Mo w) A (callWith pos (.type T) first (backTo pos (starEach [] env)) []) Q s :=
  R_callWith (P := fun _ => True) rfl (fun _ _ => ⟨.machine, .inr (.inl rfl), .now⟩) (evalArgs_nil3 ⟨trivial, rfl, h⟩)
end
section
variable {w : World} {A : Around} {E : Value → Shared → Prop} {R : Flow → Shared → Prop} {h₀ hb h h' : Heap} {g : Array GenState} {d : Drawn} {t tk : Nat} {os : OsState} {L a x C dx ba : Addr} {mg mb : Str → Option Value} {mean : ExcName → Option Value} {ns cns : List Str} {vs : List (Option Value)} {cl : List (Str × Addr)} {gs bs : List (Str × Value)} {cs : Scope} {news rest : List (Addr × Obj)} {s : Shared} {l m : List UInt8}
  {pos px : Pos} {env : Env} {y : Str}
theorem R_make {rest : List Value} {fI : Addr} {Q : Value → Shared → Prop} (W : Wd w mg mb mean h) (hm : makesIn (K w.params) C = true) (hi : findIn (K w.params) (.ref C) "__init__" = some (some (.ref fI))) (hf : typeIn (K w.params) (.ref fI) = some (.type "function"))
    (hq : wpR (Mo w) (A.under (.builtin "type.__call__" ⟨.ref C :: rest, []⟩)) (call (.ref fI) (.ref (h.objs.size + 1) :: rest)) (fun v s' => v = .none ∧ Q (.ref (h.objs.size + 1)) s') ⟨(h.push emptyDict).push (instObj C h.objs.size), g, d, tk, os⟩) :
    wpR (Mo w) A (call (.ref C) rest) Q ⟨h, g, d, tk, os⟩ := by
  have Y : Makes (Mo w) h C := makes_of W.k hm
  have Y' := Y
  have hi : Looks (Mo w) h (typeLookup (.ref C) "__init__") (some (.ref fI)) := looks_findIn W.k hi
  have hb : ∀ self, Looks (Mo w) h (bindSpecial (.ref fI) self) (.ref fI, [self]) := fun self => bind_fn W.k self hf
  (wtm_at "pc")
  obtain ⟨⟨oc, od, cd, sl, hC, e1, e2, e4⟩, made, base, self, top, call, typ⟩ := Y
  (wtm_at "pu")
  refine wpR_call (codeR_tree rfl ?_)
  show wpR _ _ (callAny (.ref C) _) _ _
  refine wpR_mono (Q := fun fin s' => fin = .again (.call (.builtin "type.__call__") ⟨.ref C :: rest, []⟩) ∧ s' = ⟨h, g, d, tk, os⟩) (wpR_lift ?_) ?_
  · refine nd_load hC ?_
    show wpAny _ _ (callAny.viaDunder (.ref C) _) _ _ _
    unfold callAny.viaDunder
    refine wpAny_bind (call.at ?_)
    (try dsimp only)
    rw [tc_bind]
    refine wpAny_bind (wpAny_pure (wpAny_bind (wpAny_pure ?_)))
    exact wpAny_pure (a := Fin.again (.call (.builtin "type.__call__") ⟨.ref C :: rest, []⟩)) ⟨rfl, rfl⟩
  intro fin s' hJ0
  (wtm_at "pc")
  obtain ⟨rfl, rfl⟩ := hJ0
  (wtm_at "pu")
  refine ⟨rfl, codeR_tree rfl ?_⟩
  show wpR _ A.in1 (do checkBuiltinCall "type.__call__" ⟨.ref C :: rest, []⟩; again (.builtin "type.__call__" ⟨.ref C :: rest, []⟩)) _ _
  refine wpR_step (check_slot tc_kind tc_split typ (tc_args _ _ _) ?_)
  refine wpR_pure ⟨Code.quiet_builtin _ (by decide +kernel), codeR_builtin (show (!lentIds.contains "type.__call__") = true by decide +kernel) entry_typeCall ?_⟩
  unfold Builtin.«type.__call__»
  have hm : Looks (Mo w) h (mroOf (.ref C)) cd.mro := ((Looks.ld (part := none) hC).andThen .now).andThen .now
  (try dsimp only)
  refine wpR_eq (if_neg (show ¬ ((Value.ref C == Value.type "type") = true) from Bool.false_ne_true)) ?_
  refine wpR_look hm ?_
  rw [e4]
  refine wpR_eq (if_neg (by decide)) ?_
  refine wpR_look made ?_
  (try dsimp only)
  refine wpR_step (wpAny_pure ?_)
  refine wpR_step (wpAny_holding (wpAny_call (codeAny_mono (new_K (R := fun r s' => r = .ok (.ret (.ref (h.objs.size + 1))) ∧ s' = ⟨(h.push emptyDict).push (instObj C h.objs.size), g, d, tk, os⟩) Y' hi (.inl rfl) ⟨rfl, rfl⟩) fun r s' z => ?_)))
  obtain ⟨rfl, rfl⟩ := z
  (try dsimp only)
  have k : ∀ b o, h.get? b = some o → ((h.push emptyDict).push (instObj C h.objs.size)).get? b = some o := fun b o e => Heap.get?_push_of_some _ (Heap.get?_push_of_some _ e)
  have hx : ((h.push emptyDict).push (instObj C h.objs.size)).get? (h.objs.size + 1) = some (instObj C h.objs.size) := by heap_get
  have t1 : Looks (Mo w) ((h.push emptyDict).push (instObj C h.objs.size)) (typeOf (.ref (h.objs.size + 1))) (.ref C) := (Looks.ld hx).andThen .now
  have s1 := self.keeps k
  have i1 := hi.keeps k
  have b1 := (hb (.ref (h.objs.size + 1))).keeps k
  refine wpR_step (Q := _) (wpAny_mono (Q := fun b s' => b = true ∧ s' = ⟨(h.push emptyDict).push (instObj C h.objs.size), g, d, tk, os⟩) ?_ (fun b s' z => ?_) fun _ _ x => x)
  · unfold isInstance
    repeat (first | exact ⟨rfl, rfl⟩ | lk)
  obtain ⟨rfl, rfl⟩ := z
  refine wpR_eq (if_neg (by decide)) ?_
  refine wpR_bind (wpR_holding ?_)
  unfold callSpecial? specialOf
  refine wpR_bind (wpR_look t1 (wpR_lift (i1.here ?_)))
  (try dsimp only)
  refine wpR_holding (wpR_look b1 ?_)
  (try dsimp only)
  refine wpR_bind (wpR_mono hq fun v s' z => ?_)
  obtain ⟨rfl, z⟩ := z
  refine wpR_pure ?_
  (try dsimp only)
  exact wpR_pure z
end
section
variable {w : World} {A : Around} {E : Value → Shared → Prop} {R : Flow → Shared → Prop} {h₀ hb h h' : Heap} {g : Array GenState} {d : Drawn} {t tk : Nat} {os : OsState} {L a x C dx ba : Addr} {mg mb : Str → Option Value} {mean : ExcName → Option Value} {ns cns : List Str} {vs : List (Option Value)} {cl : List (Str × Addr)} {gs bs : List (Str × Value)} {cs : Scope} {news rest : List (Addr × Obj)} {s : Shared} {l m : List UInt8}
  {pos px : Pos} {env : Env} {y : Str}
theorem codeR_for {I : Addr} {fp : List Addr} {n : Nat} {P : Nat → Value → Prop} {St : Nat → Heap → Prop} {R : Flow → Shared → Prop} {body : List Stmt} {oI : Obj} (ix : Nat)
    (en : En env L cs cl) (Y : Fi cs ns cns gs bs) (Wk : Walks pw w A I fp [I] n P St) (hst : ∀ i h, St i h → ∃ o, h.get? I = some o) (J : Nat → List (Option Value) → List (Addr × Obj) → Prop)
    (hfp : ∀ b ∈ fp, b = I ∨ (∃ o, h₀.get? b = some o) ∨ ∃ o, ∀ i vs news, J i vs news → (b, o) ∈ news) (hix : ns[ix]? = some y)
    (F : Fm h₀ L ns vs ((I, oI) :: news) h) (st : St 0 h) (j0 : J 0 vs news)
    (step : ∀ i v vs₁ news₁ h₁ tk₁ oI, i < n → P i v → J i vs₁ news₁ → Fm h₀ L ns (vs₁.set ix (some v)) ((I, oI) :: news₁) h₁ →
      wpR (Mo w) A (execs body env) (fun f s' => f = .next ∧ ∃ vs₃ news₃ h₃ tk₃, s' = ⟨h₃, g, d, tk₃, os⟩ ∧ Fm h₀ L ns vs₃ ((I, oI) :: news₃) h₃ ∧ J (i + 1) vs₃ news₃) ⟨h₁, g, d, tk₁, os⟩)
    (done : ∀ vs₁ news₁ h₁ tk₁, J n vs₁ news₁ → Fm h₀ L ns vs₁ news₁ h₁ → R .next ⟨h₁, g, d, tk₁, os⟩) :
    codeR (Mo w) A (.forLoop (.Name y px) (.ref I) body [] env) R ⟨h, g, d, tk, os⟩ := by
  refine codeR_loop rfl rfl (fun k s' => ∃ i vs₁ news₁ h₁ tk₁ oI, s' = ⟨h₁, g, d, tk₁, os⟩ ∧ St i h₁ ∧ Fm h₀ L ns vs₁ ((I, oI) :: news₁) h₁ ∧ J i vs₁ news₁ ∧ i ≤ n ∧ k = n + 1 - i) ?_ (n + 1) _ ⟨0, vs, news, h, tk, oI, rfl, st, F, j0, Nat.zero_le _, rfl⟩
  intro k s' hJ0
  (wtm_at "pc")
  obtain ⟨i, vs₁, news₁, h₁, tk₁, oI₁, rfl, st₁, F₁, j₁, hi, rfl⟩ := hJ0
  (wtm_at "pu")
  show wpR _ A ((forTurn (.Name y px) (.ref I) body [] env).onRaise _) _ _
  refine wpR_onRaise ?_
  simp only [forTurn]
  refine wpR_step (wpAny_standAt ?_)
  by_cases hlt : i < n
  · refine wpR_bind (wpR_onRaise (wpR_lift (Wk.item i _ _ _ hlt st₁ fun v h₂ tk₂ pv st₂ k₂ => ?_)))
    have k₂' : Heap.ExtBut I h₁ h₂ := fun b o hb e => k₂ b o (by simpa using hb) e
    obtain ⟨o₂, ho₂⟩ := hst _ _ st₂
    have F₂ := F₁.mutH k₂' ho₂
    refine wpR_step (wpAny_of_eq (a := ()) rfl ?_)
    refine wpR_step (wpAny_assign_Name (r_stI en Y F₂ hix fun h₃ F₃ _ => ?_))
    refine wpR_bind (wpR_mono (step i v vs₁ news₁ h₃ (tk₂ + 1) o₂ hlt pv j₁ F₃) fun f s' q => ?_)
    (wtm_at "pc")
    obtain ⟨rfl, vs₃, news₃, h₄, tk₄, rfl, F₄, j₄⟩ := q
    (wtm_at "pu")
    refine wpR_pure (.inl ⟨rfl, n + 1 - (i + 1), by lia, i + 1, vs₃, news₃, h₄, tk₄, o₂, rfl, ?_, F₄, j₄, hlt, rfl⟩)
    refine Wk.frame _ _ _ st₂ (fp_keep (J := fun _ => True) (fun b hb => ?_) F₂ F₄)
    rcases hfp b hb with q | q | ⟨o, q⟩
    · exact .inl q
    · exact .inr (.inl q)
    · exact .inr (.inr ⟨o, q _ _ _ j₁, q _ _ _ j₄⟩)
  · obtain rfl : i = n := by lia
    refine wpR_bind (wpR_onRaise (wpR_lift (Wk.done _ _ _ st₁ fun h₂ tk₂ k₂ => ?_)))
    have k₂' : Heap.ExtBut I h₁ h₂ := fun b o hb e => k₂ b o (by simpa using hb) e
    (try dsimp only)
    refine wpR_pure (.inr ⟨rfl, codeR_tree rfl ?_⟩)
    show wpR _ _ (do return Fin.done (← (execs [] env).onRaise (fun x => do noteFrame x env; theTreesLotGoes x))) _ _
    exact wpR_bind (wpR_onRaise (wpR_pure (wpR_pure (done vs₁ news₁ h₂ tk₂ j₁ (F₁.dropMut k₂')))))
theorem R_For {iter : Expr} {target : Expr} {body orelse : List Stmt} {Q : Flow → Shared → Prop}
    (h : wpAny (Mo w) A (eval iter env) (fun xv s₁ => wpAny (Mo w) A (pyIter xv) (fun it s₂ => codeR (Mo w) A (.forLoop target it body orelse env) Q s₂) (fun _ _ => False) s₁) (fun _ _ => False) s)
    (hs : ∀ x, foldedSetIterable iter env x = pure x := by intro _; rfl) : wpR (Mo w) A (exec (.For target iter body orelse pos) env) Q s := by
  rw [exec_For]
  refine wpR_step (wpAny_standAt (wpR_step (wpAny_mono h (fun x s₁ h₁ => ?_) fun _ _ x => x)))
  refine wpR_step (wpAny_of_eq (hs x) (wpR_step (wpAny_standAt (wpR_step (wpAny_holding (wpAny_mono h₁ (fun it s₂ h₂ => ?_) fun _ _ x => x))))))
  refine wpR_runOwn ?_
  rw [Around.mark_none]; exact h₂
noncomputable abbrev OutC (ba dx x : Addr) (l : List UInt8) (es : List DictEntry) (n : Nat) : List (Addr × Obj) := [(ba, baO l), (dx, dictOf es n), (x, instObj 272 dx)]
theorem out_call {f : Addr} {qual : Str} {body : List Stmt} {cdv : Value} {params nsF : List Str} {vals : List Value} {Q : Value → Shared → Prop} {es : List DictEntry} {n : Nat} (m : List UInt8) (D : Df w f qual body cs cdv params [] nsF gs bs)
    (W : Wd w mg mb mean h₀) (F : Fm h₀ L ns vs (OutC ba dx x l es n ++ rest) h) (hroom : A.depth < recursionLimit) (hlen : vals.length + 1 = params.length)
    (hbody : ∀ hb L' h₁ tk₁, Wd w mg mb mean hb → (∀ b o, b ≠ ba → b ≠ dx → b ≠ x → h.get? b = some o → hb.get? b = some o) → Fm hb L' nsF ((.ref x :: vals).map some ++ List.replicate (nsF.length - params.length) none) (OutC ba dx x l es n) h₁ →
      wpR (Mo w) (A.deeper (envOf qual cs L' f cdv)) (execs body (envOf qual cs L' f cdv)) (fun fl s' => fl = .next ∧ ∃ h₂ vs' more tk', s' = ⟨h₂, g, d, tk', os⟩ ∧ Fm hb L' nsF vs' (OutC ba dx x (l ++ m) es n ++ more) h₂) ⟨h₁, g, d, tk₁, os⟩)
    (hq : ∀ h' tk', Fm h₀ L ns vs (OutC ba dx x (l ++ m) es n ++ rest) h' → Q .none ⟨h', g, d, tk', os⟩) :
    wpR (Mo w) A (call (.ref f) (.ref x :: vals)) Q ⟨h, g, d, tk, os⟩ := by
  have nd := F.nd
  rw [List.map_append, List.nodup_append] at nd
  refine wpR_call (callFR (news := OutC ba dx x l es n) D W F.keep (fun p hp => ⟨(F.led p (List.mem_append_left _ hp)).1, (F.led p (List.mem_append_left _ hp)).2.2⟩) nd.1 hroom (by simpa using hlen) fun L' h₁ tk₁ W₀ kx G => ?_)
  refine wpR_mono (hbody _ L' h₁ tk₁ W₀ (fun b o h1 h2 h3 e => hideAll_get _ e (by simp [h1, h2, h3])) G) fun fl s' q => ?_
  (wtm_at "pc")
  obtain ⟨rfl, h₂, vs', more, tk', rfl, G'⟩ := q
  (wtm_at "pu")
  exact hq h₂ tk' (F.turnedL (hid := OutC ba dx x l es n) G' rfl)
end
namespace X
theorem slot_bytes_join : Slot "bytes" "join" "bytes.join" := .of (owner := "bytes") (n := "join") (by rw [typeLookup_type, builtinLookup_eq_fast]; kernel_rfl) (by decide +kernel) (by decide +kernel) (by decide +kernel)
  (by first | exact .inl (by decide +kernel) | exact .inr (by decide +kernel)) (by rw [isSubtype_type]; kernel_rfl)
theorem entry_bytes_join : entryFor table "bytes.join" = some Builtin.«bytes.join» := entryFor_of_tree (by kernel_rfl)
theorem args_bytes_join (a b : Value) : argsOk "bytes.join" ⟨[a, b], []⟩ := by unfold argsOk; kernel_rfl
theorem plain_bytes : PlainAttrs "bytes" := ⟨⟨"bytes.__getattribute__", by rw [typeLookup_type, builtinLookup_eq_fast]; kernel_rfl, by decide +kernel⟩, by rw [typeLookup_type, builtinLookup_eq_fast]; kernel_rfl⟩
end X
inductive BytesAre : List Value → List (List UInt8) → Prop
  | nil : BytesAre [] []
  | cons {t : Tok} {l : List UInt8} {vs : List Value} {ls : List (List UInt8)} : BytesAre vs ls → BytesAre (.bytes l.toArray t :: vs) (l :: ls)
theorem BytesAre.length {vs : List Value} {ls : List (List UInt8)} (b : BytesAre vs ls) : vs.length = ls.length := by
  induction b with
  | nil => rfl
  | cons _ ih => simp [ih]
theorem BytesAre.append {vs vs' : List Value} {ls ls' : List (List UInt8)} (b : BytesAre vs ls) (b' : BytesAre vs' ls') : BytesAre (vs ++ vs') (ls ++ ls') := by
  induction b with
  | nil => exact b'
  | cons _ ih => exact .cons ih
theorem BytesAre.at {vs : List Value} {ls : List (List UInt8)} (b : BytesAre vs ls) : ∀ {i : Nat}, i < vs.length → ∃ t l, vs[i]? = some (.bytes l.toArray t) ∧ ls[i]? = some l := by
  induction b with
  | nil => intro i h; simp at h
  | cons _ ih =>
    intro i h
    cases i with
    | zero => exact ⟨_, _, rfl, rfl⟩
    | succ i => simpa using ih (by simpa using h)
theorem joined_eq (ls : List (List UInt8)) : Builtin.Bytes.joined #[] (ls.map List.toArray) = ls.flatten.toArray := by
  unfold Builtin.Bytes.joined
  have key : ∀ (ls : List (List UInt8)) (k : Nat) (acc : List UInt8), ((ls.map List.toArray).zipIdx k).foldl (fun out (p, i) => (if i > 0 then out ++ #[] else out) ++ p) acc.toArray = (acc ++ ls.flatten).toArray := fun ls => by
    induction ls with
    | nil => intro k acc; simp
    | cons l ls ih =>
      intro k acc
      simp only [List.map_cons, List.zipIdx_cons, List.foldl_cons]
      have e : (if k > 0 then acc.toArray ++ #[] else acc.toArray) ++ l.toArray = (acc ++ l).toArray := by split <;> simp
      rw [e, ih]; simp
  have := key ls 0 []
  simpa using this
theorem parts_size (ls : List (List UInt8)) : ∀ n : Nat, (ls.map List.toArray).foldl (fun a b => a + b.size) n = n + ls.flatten.length := by
  induction ls with
  | nil => simp
  | cons l ls ih => intro n; simp [ih]; lia
section
variable {w : World} {A : Around} {E : Value → Shared → Prop} {h₀ hb h h' : Heap} {g : Array GenState} {d : Drawn} {t tk : Nat} {os : OsState} {D : Addr} {s : Shared} {M : Model}
theorem for_range {β : Type} {n : Nat} {b₀ : β} {f : Nat → β → Sem (ForInStep β)} {Q : β → Shared → Prop} (I : Nat → β → Prop) (h0 : I 0 b₀)
    (step : ∀ i b, i < n → I i b → wpAny M A (f i b) (fun st s' => s' = s ∧ ∃ b', st = .yield b' ∧ I (i + 1) b') E s) (hq : ∀ b, I n b → Q b s) : wpAny M A (forIn [0:n] b₀ f) Q E s := by
  rw [Std.Legacy.Range.forIn_eq_forIn_range']
  have e : List.range' 0 (Std.Legacy.Range.size [0:n]) 1 = List.range' 0 n 1 := by simp [Std.Legacy.Range.size]
  show wpAny M A (forIn (List.range' 0 (Std.Legacy.Range.size [0:n]) 1) b₀ f) Q E s
  rw [e]
  have key : ∀ k i b, i + k = n → I i b → wpAny M A (forIn (List.range' i k 1) b f) Q E s := fun k => by
    induction k with
    | zero => intro i b hi hb; obtain rfl : i = n := by lia
              exact wpAny_pure (hq b hb)
    | succ k ih =>
      intro i b hi hb
      rw [List.range'_succ, List.forIn_cons]
      refine wpAny_bind (wpAny_mono (step i b (by lia) hb) (fun st s' q => ?_) fun _ _ x => x)
      (wtm_at "pc")
      obtain ⟨rfl, b', rfl, hb'⟩ := q
      (wtm_at "pu")
      exact ih (i + 1) b' (by lia) hb'
  exact key n 0 b₀ (by lia) h0
theorem join_letGo {keep : List Value} {Q : Unit → Shared → Prop} : ∀ {taken : List (Value × Option Value)}, (∀ p ∈ taken, p.2 = none) → Q () s → wpAny M A (Builtin.Bytes.joinLetGo taken keep) Q E s
  | [], _, hq => wpAny_pure hq
  | (x, w) :: r, ht, hq => by
    have : w = none := ht _ (.head _)
    subst this
    unfold Builtin.Bytes.joinLetGo
    refine wpAny_bind ?_
    show wpAny _ _ (do holding _ point; letGo [] _) _ _ _
    refine wpAny_bind (wpAny_holding (wpAny_point ?_))
    exact wpAny_pure (join_letGo (fun p hp => ht p (.tail _ hp)) hq)
theorem BytesAre.one {y : Value} {ls : List (List UInt8)} (b : BytesAre [y] ls) : ∃ l t, y = .bytes l.toArray t ∧ ls = [l] := by
  cases b with
  | cons b' => cases b'; exact ⟨_, _, rfl, rfl⟩
theorem r_joinB {ys : List Value} {ls : List (List UInt8)} {n : Nat} {tt : Tok} {Q : Value → Shared → Prop} (hx : h.get? D = some (lsO ys n)) (b : BytesAre ys ls) (hn : ls.flatten.length ≤ 10000)
    (hq : ∀ t k, Q (.bytes ls.flatten.toArray t) ⟨h, g, d, k, os⟩) : wpAny (Mo w) A (call (.builtin "bytes.join") [.bytes #[] tt, .ref D]) Q E ⟨h, g, d, tk, os⟩ := by
  have hT : (⟨h, g, d, tk, os⟩ : Shared).TypeIs (.bytes #[] tt) "bytes" := typeIs_bytes _ _ _
  refine wpAny_call_entry X.slot_bytes_join hT X.entry_bytes_join ?_ (X.args_bytes_join _ _)
  show wpAny _ _ (Builtin.Bytes.joinM .bytes ⟨[.bytes #[] tt, .ref D], []⟩) _ _ _
  unfold Builtin.Bytes.joinM
  refine wpAny_bind (wpAny_of_eq (a := (Value.bytes #[] tt, Value.ref D)) (by rfl) ?_)
  (try dsimp only)
  rw [if_pos (by rfl)]
  have hit : ∀ {Q : Option (Array Value) → Shared → Prop}, Q (some ys.toArray) ⟨h, g, d, tk, os⟩ → wpAny (Mo w) A.in1 (seqItems? (.ref D)) Q E ⟨h, g, d, tk, os⟩ := fun q => by
    unfold seqItems?
    exact wpAny_bind (wpAny_load hx (wpAny_pure q))
  refine wpAny_bind (wpAny_mono (Q := fun v s' => v = .ref D ∧ s' = ⟨h, g, d, tk, os⟩) (E := E) ?_ (fun v s' z => ?_) fun _ _ x => x)
  · unfold Builtin.Bytes.joinItems
    refine wpAny_bind (wpAny_typeOf (T := "list") ⟨_, hx, rfl⟩ ?_)
    rw [if_pos (by rfl)]
    exact wpAny_pure ⟨rfl, rfl⟩
  obtain ⟨rfl, rfl⟩ := z
  refine wpAny_bind (hit ?_)
  (try dsimp only)
  rw [if_pos (by rfl)]
  by_cases h1 : ys.length = 1
  · obtain ⟨y, rfl⟩ := List.length_eq_one_iff.mp h1
    (wtm_at "pc")
    obtain ⟨l, tv, rfl, rfl⟩ := b.one
    (wtm_at "pu")
    show wpAny _ _ (do
      if (← typeOf (.bytes l.toArray tv)) == .type "bytes" then do
        rule "bytes.join.one-item"
        ret (.bytes l.toArray tv)
      else _) _ _ _
    refine wpAny_bind (wpAny_typeOf (T := "bytes") (typeIs_bytes _ _ _) ?_)
    rw [if_pos (by rfl)]
    refine wpAny_bind (wpAny_rule (wpAny_pure ⟨_, rfl, ?_⟩))
    have := hq tv tk
    simpa using this
  · have sk : ∀ {f : Value → Sem Fin} {g' : Sem Fin} {Q : Fin → Shared → Prop}, wpAny (Mo w) A.in1 g' Q E ⟨h, g, d, tk, os⟩ → wpAny (Mo w) A.in1 (match ys.toArray with | #[x] => f x | _ => g') Q E ⟨h, g, d, tk, os⟩ := fun {f g' Q} q => by
      match ys, h1 with
      | [], _ => exact q
      | _ :: _ :: _, _ => exact q
    refine sk ?_
    refine wpAny_bind (for_range (fun i st => st.1 = ((ls.take i).map List.toArray).toArray ∧ ∀ p ∈ st.2, p.2 = none ∧ p.1.onHeap = false) ⟨by simp, fun _ h => nomatch h⟩ (fun i st hi hst => ?_) fun st hst => ?_)
    · obtain ⟨ps, taken⟩ := st
      obtain ⟨rfl, ht⟩ := hst
      dsimp only at ht ⊢
      refine wpAny_bind (hit ?_)
      (try dsimp only)
      have hany : (taken.any fun x => x.1.onHeap) = false := by
        rw [List.any_eq_false]; intro p hp; rw [(ht p hp).2]; decide
      rw [hany, if_neg (by decide)]
      (wtm_at "pc")
      obtain ⟨tv, l, e1, e2⟩ := b.at (i := i) (by simpa using hi)
      (wtm_at "pu")
      have e3 : ys.toArray.getD i .none = .bytes l.toArray tv := by
        obtain ⟨hlt, e⟩ := List.getElem?_eq_some_iff.mp e1
        simp [Array.getD, hlt, e]
      rw [e3]
      refine wpAny_bind (wpAny_holding (take_bytes ?_))
      (try dsimp only)
      refine wpAny_bind (hit ?_)
      (try dsimp only)
      rw [if_neg (by simp)]
      refine wpAny_pure ⟨rfl, _, rfl, ?_, fun p hp => ?_⟩
      · rw [List.take_add_one, e2]; simp
      · rcases List.mem_append.mp hp with q | q
        · exact ht p q
        · obtain rfl := List.mem_singleton.mp q; exact ⟨rfl, rfl⟩
    · obtain ⟨ps, taken⟩ := st
      obtain ⟨rfl, ht⟩ := hst
      dsimp only at ht ⊢
      have hlen : ls.take ys.toArray.size = ls := by rw [List.size_toArray, b.length, List.take_length]
      rw [hlen]
      refine wpAny_bind (wpAny_of_eq (a := #[]) rfl ?_)
      rw [if_neg]
      · refine wpAny_bind ?_
        rw [joined_eq]
        refine wpAny_mkBytes ?_ (by rw [List.size_toArray, sizeLine_eq]; omega)
        refine wpAny_bind (wpAny_holding (wpAny_point (wpAny_bind (join_letGo (fun p hp => (ht p hp).1) (wpAny_pure ⟨_, rfl, ?_⟩)))))
        exact hq _ _
      · have : (ls.map List.toArray).toArray.foldl (fun a b => a + b.size) ((#[] : Array UInt8).size * ((ls.map List.toArray).toArray.size - 1)) = ls.flatten.length := by
          rw [List.foldl_toArray, parts_size]; simp
        simp only [Builtin.Bytes.tooLong, decide_eq_true_eq]
        rw [sizeLine_eq]
        rw [show (fun (x1 : Nat) (x2 : Array UInt8) => x1 + x2.size) = (fun a b => a + b.size) from rfl, this]; omega
end
theorem ints_at {xs : List Value} {ks : List Int} (h : IntsAre xs ks) : ∀ {i : Nat} {v : Value}, xs[i]? = some v → ∃ k t, ks[i]? = some k ∧ v = .int k t := by
  induction h with
  | nil => intro i v e; simp at e
  | cons n t _ ih =>
    intro i v e
    cases i with
    | zero => cases e; exact ⟨_, _, rfl, rfl⟩
    | succ i => exact ih (by simpa using e)
section
variable {w : World} {A : Around} {E : Value → Shared → Prop} {h₀ hb h h' : Heap} {g : Array GenState} {d : Drawn} {t tk : Nat} {os : OsState} {L x dx ba : Addr} {mg mb : Str → Option Value} {mean : ExcName → Option Value} {ns : List Str} {vs : List (Option Value)} {news rest : List (Addr × Obj)} {l m : List UInt8} {es : List DictEntry} {n : Nat}
theorem Out_u16_c {k : Int} {t₁ : Tok} {Q : Value → Shared → Prop} (W : Wd w mg mb mean h₀) (F : Fm h₀ L ns vs (OutC ba dx x l es n ++ rest) h) (R : Rm 6 A) (hh : A.handled = none) (rep : Rep [("made", .ref ba)] es) (h0 : 0 ≤ k) (h1 : k < 65536) (hl : l.length ≤ 9000)
    (hq : ∀ h' tk', Fm h₀ L ns vs (OutC ba dx x (l ++ beL 2 k.toNat) es n ++ rest) h' → Q .none ⟨h', g, d, tk', os⟩) : wpR (Mo w) A (call (.ref 217) [.ref x, .int k t₁]) Q ⟨h, g, d, tk, os⟩ := by
  refine out_call (beL 2 k.toNat) (df_OctetsOut_u16 w) W F R.room rfl (fun hb L' h₁ tk₁ W kx F => ?_) hq
  have Y := (df_OctetsOut_u16 w).fi
  (wtm_at "f0")
  refine R_cons (R_expr (R_callA ?_))
  repeat (wtm_at "ev")
  refine RMeth.extend (F.get (.head _)) (R_cwB ?_)
  repeat (wtm_at "ev")
  refine number_octets_c (W.keeps F.keep) (R.le.deep) hh (.inl rfl) h0 h1 fun h' t tk' kx => ?_
  have F := F.ext kx
  repeat (wtm_at "ev")
  refine R_extend F (by rw [beL_length]; simp; lia) fun h' F => ?_
  exact ⟨rfl, R_nil ⟨rfl, _, _, [], _, rfl, by rw [List.append_nil]; exact F⟩⟩
theorem Out_u32_c {k : Int} {t₁ : Tok} {Q : Value → Shared → Prop} (W : Wd w mg mb mean h₀) (F : Fm h₀ L ns vs (OutC ba dx x l es n ++ rest) h) (R : Rm 6 A) (hh : A.handled = none) (rep : Rep [("made", .ref ba)] es) (h0 : 0 ≤ k) (h1 : k < 4294967296) (hl : l.length ≤ 9000)
    (hq : ∀ h' tk', Fm h₀ L ns vs (OutC ba dx x (l ++ beL 4 k.toNat) es n ++ rest) h' → Q .none ⟨h', g, d, tk', os⟩) : wpR (Mo w) A (call (.ref 238) [.ref x, .int k t₁]) Q ⟨h, g, d, tk, os⟩ := by
  refine out_call (beL 4 k.toNat) (df_OctetsOut_u32 w) W F R.room rfl (fun hb L' h₁ tk₁ W kx F => ?_) hq
  have Y := (df_OctetsOut_u32 w).fi
  (wtm_at "f0")
  refine R_cons (R_expr (R_callA ?_))
  repeat (wtm_at "ev")
  refine RMeth.extend (F.get (.head _)) (R_cwB ?_)
  repeat (wtm_at "ev")
  refine number_octets_c (W.keeps F.keep) (R.le.deep) hh (.inr rfl) h0 h1 fun h' t tk' kx => ?_
  have F := F.ext kx
  repeat (wtm_at "ev")
  refine R_extend F (by rw [beL_length]; simp; lia) fun h' F => ?_
  exact ⟨rfl, R_nil ⟨rfl, _, _, [], _, rfl, by rw [List.append_nil]; exact F⟩⟩
theorem BMeth.joinB {k : String → Prop} {b : Array UInt8} {t : Tok} {s : Shared} (q : k "bytes.join") : BMeth w A "join" k (.bytes b t) s :=
  ⟨_, fun _ _ _ q => getMethod_builtin (T := "bytes") (typeIs_bytes _ _ _) X.plain_bytes X.slot_bytes_join (by kernel_rfl) (fun a ha => by cases ha) q, q⟩
theorem Out_rows_c {a : Addr} {ks : List Int} {xs : List Value} {Q : Value → Shared → Prop} (W : Wd w mg mb mean h₀) (F : Fm h₀ L ns vs (OutC ba dx x l es n ++ rest) h) (R : Rm 6 A) (hh : A.handled = none) (rep : Rep [("made", .ref ba)] es)
    (hT : h.get? a = some (tpO xs)) (hx : IntsAre xs ks) (hk : ∀ k ∈ ks, 0 ≤ k ∧ k < 65536) (hn : ks.length ≤ 100) (hl : l.length ≤ 9000)
    (hq : ∀ h' tk', Fm h₀ L ns vs (OutC ba dx x (l ++ (ks.map fun k => beL 2 k.toNat).flatten) es n ++ rest) h' → Q .none ⟨h', g, d, tk', os⟩) : wpR (Mo w) A (call (.ref 248) [.ref x, .ref a]) Q ⟨h, g, d, tk, os⟩ := by
  have n1 : a ≠ ba := fun e => by rw [e, F.get (.head _)] at hT; have := congrArg (Option.map Obj.cls) hT; simp at this
  have n2 : a ≠ dx := fun e => by rw [e, F.get (.tail _ (.head _))] at hT; have := congrArg (Option.map Obj.cls) hT; simp at this
  have n3 : a ≠ x := fun e => by rw [e, F.get (.tail _ (.tail _ (.head _)))] at hT; have := congrArg (Option.map Obj.cls) hT; simp at this
  refine out_call (ks.map fun k => beL 2 k.toNat).flatten (df_OctetsOut_rows w) W F R.room rfl (fun hb L' h₁ tk₁ W kx F => ?_) hq
  have hT := kx a _ n1 n2 n3 hT
  have Y := (df_OctetsOut_rows w).fi
  (wtm_at "f0")
  refine R_cons (R_expr (R_callA ?_))
  repeat (wtm_at "ev")
  refine RMeth.extend (F.get (.head _)) (R_cwB ?_)
  repeat (wtm_at "ev")
  refine BMeth.joinB ?_
  repeat (wtm_at "ev")
  refine r_iterT F (Tp.of (F.keep _ _ hT)) fun I h3 oI F3 st3 neI k3 => ?_
  clear F
  refine comp_fin0 (nsC := ["number"]) (cnsC := []) (gsC := [("number_octets", .ref 189)]) (bsC := []) 0 En.fn rfl (Fi.of (by kernel_rfl)) (by decide +kernel) rfl (Walks.tuple (by exact hh) I a (Ne.symm neI) xs.toArray) st_tuple
    (fun i ys news => news = OutC ba dx x l es n ∧ BytesAre ys ((ks.take i).map fun k => beL 2 k.toNat)) (fun b hb => ?_) rfl (by rw [List.size_toArray, hx.length, sizeLine_eq]; lia) W F3 st3 ⟨rfl, .nil⟩ ?_ ?_
  · rcases List.mem_cons.mp hb with rfl | q
    · exact .inl rfl
    · obtain rfl := List.mem_singleton.mp q
      (wtm_at "pc")
      obtain ⟨o, e, _⟩ := st3.2
      (wtm_at "pu")
      refine .inr (.inl ⟨⟨o, e⟩, fun z => ?_⟩)
      rcases List.mem_cons.mp z with z | z
      · exact neI z.symm
      · simp only [List.map_cons, List.map_nil, List.mem_cons, List.not_mem_nil, or_false] at z
        rcases z with z | z | z <;> first | exact n1 z | exact n2 z | exact n3 z
  · intro hb' C D' i v ys news₁ h tk oI ep Y W keep hi pv hJ0 F en
    (wtm_at "pc")
    obtain ⟨rfl, b⟩ := hJ0
    (wtm_at "pu")
    (wtm_at "fs")
    (wtm_at "pc")
    obtain ⟨k, tv, ek, rfl⟩ := ints_at hx (by simpa using pv)
    (wtm_at "pu")
    repeat (wtm_at "ev")
    have hm := hk k (List.mem_of_getElem? ek)
    refine number_octets_c (W.keeps F.keep) (R.le.deep) hh (.inl rfl) hm.1 hm.2 fun h' t tk' kx => ?_
    have F := F.ext kx
    refine ⟨_, _, _, _, rfl, F, rfl, ?_⟩
    rw [List.take_add_one, ek, List.map_append]
    exact b.append (.cons .nil)
  · intro D ys news₁ h tk ep hJ0 F
    (wtm_at "pc")
    obtain ⟨rfl, b⟩ := hJ0
    (wtm_at "pu")
    repeat (wtm_at "ev")
    have hlen : ks.take xs.toArray.size = ks := by rw [List.size_toArray, hx.length, List.take_length]
    rw [hlen] at b
    have hfl : (ks.map fun k => beL 2 k.toNat).flatten.length ≤ 200 := by
      have : ∀ ks : List Int, (ks.map fun k => beL 2 k.toNat).flatten.length = 2 * ks.length := fun ks => by
        induction ks with
        | nil => rfl
        | cons k ks ih => simp only [List.map_cons, List.flatten_cons, List.length_append, beL_length, ih, List.length_cons]; lia
      rw [this]; lia
    refine r_joinB (F.get (.head _)) b (by lia) fun t k => ?_
    repeat (wtm_at "ev")
    replace F := F.drop (List.sublist_cons_self _ _)
    refine R_extend F (by lia) fun h' F => ?_
    exact ⟨rfl, R_nil ⟨rfl, _, _, [], _, rfl, by rw [List.append_nil]; exact F⟩⟩
end
noncomputable def Asc (y : Str) : Prop := y.cps.all (· < 128) = true
noncomputable def octsOf (y : Str) : List UInt8 := y.cps.toList.map (fun c => c.toUInt8)
section
variable {w : World} {A : Around} {E : Value → Shared → Prop} {h₀ hb h h' : Heap} {g : Array GenState} {d : Drawn} {t tk : Nat} {os : OsState} {L x dx ba a b : Addr} {mg mb : Str → Option Value} {mean : ExcName → Option Value} {ns : List Str} {vs : List (Option Value)} {news rest : List (Addr × Obj)} {l m : List UInt8} {es : List DictEntry} {n : Nat}
theorem r_iterS {y : Str} {t : Tok} {Q : Value → Shared → Prop} (F : Fm h₀ L ns vs news h) (hy : Asc y) (hq : ∀ I h' oI, Fm h₀ L ns vs ((I, oI) :: news) h' → h'.IsStrIter I "str_ascii_iterator" y t 0 → Ext h h' → Q (.ref I) ⟨h', g, d, tk, os⟩) :
    wpAny (Mo w) A (pyIter (.str y t)) Q E ⟨h, g, d, tk, os⟩ :=
  wpAny_pyIter_ascii hy (hq _ _ _ (F.push _) ⟨_, Heap.get?_push_size _ rfl, rfl, rfl⟩ fun b o e => Heap.get?_push_of_some _ e)
theorem st_str {I : Addr} {y : Str} {t : Tok} : ∀ (i : Nat) (h : Heap), h.IsStrIter I "str_ascii_iterator" y t i → ∃ o, h.get? I = some o := fun _ _ st => let ⟨o, ho, _⟩ := st; ⟨o, ho⟩
theorem r_neLists {xs ys : List Value} {na nb : Nat} {Q : Value → Shared → Prop} (e : Nat → Bool) (ha : h.get? a = some (lsO xs na)) (hb : h.get? b = some (lsO ys nb)) (hn : xs.length = ys.length) (hu : A.units < cLine)
    (he : ∀ j (h1 : j < xs.length) (h2 : j < ys.length), SeqAt.EqAt A.in1 ⟨h, g, d, tk, os⟩ xs[j] ys[j] (e j)) (hq : Q (.bool (!(List.range xs.length).all e)) ⟨h, g, d, tk, os⟩) : wpAny (Mo w) A (compareOp .NotEq (.ref a) (.ref b)) Q E ⟨h, g, d, tk, os⟩ := by
  refine SeqAt.RcNeAt.lists (items := xs.toArray) (items2 := ys.toArray) (e := e) ⟨_, ha, rfl, _, rfl⟩ ⟨_, hb, rfl, _, rfl⟩ (by simpa using hn) hu (fun j h1 h2 => ?_) pw w E Q (by simpa using hq)
  simpa using he j (by simpa using h1) (by simpa using h2)
theorem r_lenS {y : Str} {t : Tok} {Q : Value → Shared → Prop} (hy : y.cps.size ≤ 1000) (hq : Q (.int (y.cps.size : Nat) (tk + 1)) ⟨h, g, d, tk + 2, os⟩) : wpAny (Mo w) A (call (.builtin "len") [.str y t]) Q E ⟨h, g, d, tk, os⟩ :=
  PySem.P.len_str (by show ¬ ((y.cps.size : Nat) : Int) ≥ 2 ^ 63; lia) hq
theorem Out_tag_c {y : Str} {t₁ : Tok} {Q : Value → Shared → Prop} (W : Wd w mg mb mean h₀) (F : Fm h₀ L ns vs (OutC ba dx x l es n ++ rest) h) (R : Rm 6 A) (hh : A.handled = none) (rep : Rep [("made", .ref ba)] es) (hy : Asc y) (h4 : y.cps.size = 4) (hl : l.length ≤ 9000)
    (hq : ∀ h' tk', Fm h₀ L ns vs (OutC ba dx x (l ++ octsOf y) es n ++ rest) h' → Q .none ⟨h', g, d, tk', os⟩) : wpR (Mo w) A (call (.ref 243) [.ref x, .str y t₁]) Q ⟨h, g, d, tk, os⟩ := by
  refine out_call (octsOf y) (df_OctetsOut_tag w) W F R.room rfl (fun hb L' h₁ tk₁ W kx F => ?_) hq
  have Y := (df_OctetsOut_tag w).fi
  have small : ∀ c ∈ y.cps.toList, c < 128 := fun c hc => by
    have := hy; unfold Asc at this; rw [← Array.all_toList, List.all_eq_true] at this
    simpa using this c hc
  (wtm_at "f0")
  refine R_st ?_
  repeat (wtm_at "ev")
  refine r_lenS (by lia) ?_
  rw [h4]
  repeat (wtm_at "ev")
  refine r_ifF (by decide) ?_
  repeat (wtm_at "ev")
  refine r_iterS F hy fun I h3 oI F3 st3 k3 => ?_
  clear F
  refine comp_finT (nsC := ["sign"]) (cnsC := []) (gsC := []) (bsC := [("ord", .builtin "ord")]) 0 En.fn rfl (Fi.of (by kernel_rfl)) (by decide +kernel) rfl (Walks.strAscii (by exact hh) I y t₁) st_str
    (fun i ys news => news = OutC ba dx x l es n ∧ ys = []) (fun b hb => .inl (List.mem_singleton.mp hb)) rfl (by rw [sizeLine_eq]; lia) W F3 st3 ⟨rfl, rfl⟩ ?_ ?_
  · intro hb' C D' i v ys news₁ h tk oI ep Y W keep hi hJ0 hJ1 F en
    (wtm_at "pc")
    obtain ⟨c, u, hc, rfl⟩ := hJ0
    obtain ⟨rfl, rfl⟩ := hJ1
    (wtm_at "pu")
    (wtm_at "fs")
    have hc' : c < 128 := small c (Array.mem_toList_iff.mpr (Array.mem_of_getElem? hc))
    repeat (wtm_at "ev")
    refine PySem.P.ord_of_char ?_
    repeat (wtm_at "ev")
    refine r_ifF (by simp only [decide_eq_true_eq]; lia) ?_
    exact ⟨_, _, _, _, rfl, F, rfl, rfl⟩
  · intro D ys news₁ h tk ep hJ0 F
    (wtm_at "pc")
    obtain ⟨rfl, rfl⟩ := hJ0
    (wtm_at "pu")
    repeat (wtm_at "ev")
    refine r_neLists (fun _ => true) (F.get (.tail _ (.head _))) (F.get (.head _)) rfl (R.deep.units) (fun j h1 h2 => absurd h1 (Nat.not_lt_zero _)) ?_
    repeat (wtm_at "ev")
    refine r_ifF (by decide) ?_
    repeat (wtm_at "ev")
    refine ⟨rfl, ?_⟩
    replace F := F.drop ((List.sublist_cons_self _ _).trans (List.sublist_cons_self _ _))
    refine R_cons (R_expr (R_callA ?_))
    repeat (wtm_at "ev")
    refine RMeth.extend (F.get (.head _)) (R_cwB ?_)
    repeat (wtm_at "ev")
    refine r_iterS F hy fun I h3 oI F3 st3 k3 => ?_
    clear F
    refine comp_fin0 (nsC := ["sign"]) (cnsC := []) (gsC := []) (bsC := [("ord", .builtin "ord")]) 0 En.fn rfl (Fi.of (by kernel_rfl)) (by decide +kernel) rfl (Walks.strAscii (by exact hh) I y t₁) st_str
      (fun i ys news => news = OutC ba dx x l es n ∧ IntsAre ys ((y.cps.toList.take i).map fun c : Nat => (c : Int))) (fun b hb => .inl (List.mem_singleton.mp hb)) rfl (by rw [sizeLine_eq]; lia) W F3 st3 ⟨rfl, .nil⟩ ?_ ?_
    · intro hb' C D' i v ys news₁ h tk oI ep Y W keep hi hJ0 hJ1 F en
      (wtm_at "pc")
      obtain ⟨c, u, hc, rfl⟩ := hJ0
      obtain ⟨rfl, b⟩ := hJ1
      (wtm_at "pu")
      (wtm_at "fs")
      repeat (wtm_at "ev")
      refine PySem.P.ord_of_char ?_
      refine ⟨_, _, _, _, rfl, F, rfl, ?_⟩
      have e : y.cps.toList[i]? = some c := by simpa using hc
      rw [List.take_add_one, e, List.map_append]
      exact b.append (.cons _ _ .nil)
    · intro D ys news₁ h tk ep hJ0 F
      (wtm_at "pc")
      obtain ⟨rfl, b⟩ := hJ0
      (wtm_at "pu")
      repeat (wtm_at "ev")
      have e : y.cps.toList.take y.cps.size = y.cps.toList := List.take_of_length_le (by simp)
      rw [e] at b
      refine call_bytes_ints (l := D) ⟨_, F.get (.head _), rfl, _, rfl⟩ b (fun m hm => ?_) (by rw [b.length, sizeLine_eq]; simp; lia) (by exact hh) fun h' t k kx => ?_
      · (wtm_at "pc")
        obtain ⟨c, hc, rfl⟩ := List.mem_map.mp hm
        (wtm_at "pu")
        have := small c hc
        lia
      · have eb : byteArr (y.cps.toList.map fun c : Nat => (c : Int)) = (octsOf y).toArray := by
          unfold byteArr octsOf
          rw [List.map_map]; congr 1
        rw [eb]
        replace F := (F.ext kx).drop (List.sublist_cons_self _ _)
        repeat (wtm_at "ev")
        refine R_extend F (by unfold octsOf; simp; lia) fun h' F => ?_
        exact ⟨rfl, R_nil ⟨rfl, _, _, [], _, rfl, by rw [List.append_nil]; exact F⟩⟩
theorem Out_octets_c {Q : Value → Shared → Prop} (W : Wd w mg mb mean h) (R : Rm 3 A) (I : At h x 272 [("made", .ref ba)]) (hb : h.get? ba = some (baO l)) (hl : l.length ≤ 9000)
    (hq : ∀ h' t tk', Ext h h' → Q (.bytes l.toArray t) ⟨h', g, d, tk', os⟩) : wpAny (Mo w) A (call (.ref 269) [.ref x]) Q E ⟨h, g, d, tk, os⟩ := by
  refine callP (df_OctetsOut_octets w) W R.room rfl fun L h₁ tk₁ F => ?_
  have Y := (df_OctetsOut_octets w).fi
  (wtm_at "f0")
  have I := I.ext F.keep
  refine wpAny_execs_cons ?_
  repeat (wtm_at "ev")
  refine bytes_ba (F.keep _ _ hb) (by lia) ?_
  exact hq _ _ _ F.keep
end
section
variable {w : World} {A : Around} {E : Value → Shared → Prop} {h₀ hb h h' : Heap} {g : Array GenState} {d : Drawn} {t tk : Nat} {os : OsState} {L x dx ba a b : Addr} {mg mb : Str → Option Value} {mean : ExcName → Option Value} {ns : List Str} {vs : List (Option Value)} {news rest : List (Addr × Obj)} {l m : List UInt8} {es : List DictEntry} {n : Nat}
  {env : Env} {pos : Pos} {s : Shared}
theorem R_assignAttr {o value : Expr} {attr : Str} {pos' : Pos} {Q : Flow → Shared → Prop}
    (h : wpR (Mo w) A (eval value env) (fun v s₁ => wpAny (Mo w) A (eval o env) (fun ov s₂ => wpAny (Mo w) A (setAttr ov attr v) (fun _ => Q .next) (fun _ _ => False) s₂) (fun _ _ => False) s₁) s)
    (hs : swapsWith value (some (.Attribute o attr pos')) pos.line env = pure false := by rfl) :
    wpR (Mo w) A (exec (.Assign [.Attribute o attr pos'] value pos) env) Q s := fun Γ p i ok b => by
  simp only [plainObj_exec_Assign_Attribute o attr pos' value pos hs, assign_Attribute, Sem.wp_bind', Sem.wp_holding, Sem.wp_cmd_standAt, Sem.wp_release, Sem.wp_pure']
  exact Sem.wp_mono _ Γ _ (fun v p₁ s₁ h₁ => Sem.wp_mono _ Γ _ (fun ov _ s₂ h₂ => h₂ Γ _ i) (fun _ _ _ h' => h') _ _ (h₁ Γ p₁ i)) (fun _ _ _ h' => h') _ _ (h Γ _ i ok b)
theorem Out_new_c {Q : Value → Shared → Prop} {hB : Heap} (W : Wd w mg mb mean hB) (R : Rm 6 A)
    (hq : ∀ h' ba dx x es n tk', Ext hB h' → (∀ p ∈ OutC ba dx x [] es n, h'.get? p.1 = some p.2 ∧ hB.get? p.1 = none) → ((OutC ba dx x [] es n).map (·.1)).Nodup → Rep [("made", .ref ba)] es → Q (.ref x) ⟨h', g, d, tk', os⟩) :
    wpR (Mo w) A (call (.ref 272) []) Q ⟨hB, g, d, tk, os⟩ := by
  refine R_make W (fI := 203) (by kernel_rfl) (by kernel_rfl) (by kernel_rfl) ?_
  have R1 := under_make (C := 272) (rest := []) R
  refine wpR_call (callFR (news := [(hB.objs.size, emptyDict), (hB.objs.size + 1, instObj 272 hB.objs.size)]) (df_OctetsOut_init w) W made_ext made_news made_nodup R1.room rfl fun L h₁ tk₁ W₀ kx F => ?_)
  have F := F.base kx (by rw [hideAll_size, Heap.size_push, Heap.size_push]; lia)
  have Y := (df_OctetsOut_init w).fi
  have rep : Rep [] [] := trivial
  (wtm_at "f0")
  refine R_cons (R_assignAttr (R_callName ?_))
  repeat (wtm_at "ev")
  refine R_cwT0 (ba_made F fun ba h' F2 kx2 => ?_)
  clear F
  have F := F2.perm (List.perm_append_comm (l₁ := [(ba, baO [])]) (l₂ := [(hB.objs.size, emptyDict), (hB.objs.size + 1, instObj 272 hB.objs.size)]))
  clear F2
  repeat (wtm_at "ev")
  refine R_nil ⟨rfl, hq _ ba hB.objs.size (hB.objs.size + 1) es n _ F.keep (fun p hp => ?_) ?_ (rep.of (by kernel_rfl))⟩
  · refine ⟨F.get ?_, (F.led p ?_).2.2⟩ <;> (simp only [OutC, List.mem_cons, List.not_mem_nil, or_false, List.cons_append, List.nil_append] at hp ⊢; rcases hp with rfl | rfl | rfl <;> simp)
  · have := (F.perm (List.perm_append_comm (l₁ := [(hB.objs.size, dictOf es n), (hB.objs.size + 1, instObj 272 hB.objs.size)]) (l₂ := [(ba, baO [])]))).nd
    exact this
end
noncomputable def recL (r : RecD) : List UInt8 := octsOf r.tag ++ beL 4 r.total.toNat ++ beL 4 r.begin.toNat ++ beL 4 r.length.toNat
noncomputable def dirL (s3 : List UInt8) (rs : List RecD) : List UInt8 := beL 4 65536 ++ beL 2 rs.length ++ s3 ++ (rs.map recL).flatten
structure RecOk (r : RecD) : Prop where
  asc : Asc r.tag
  four : r.tag.cps.size = 4
  t0 : 0 ≤ r.total
  t1 : r.total < 4294967296
  b0 : 0 ≤ r.begin
  b1 : r.begin < 4294967296
  l0 : 0 ≤ r.length
  l1 : r.length < 4294967296
theorem recL_length {r : RecD} (o : RecOk r) : (recL r).length = 16 := by simp [recL, beL_length, octsOf, o.four]
theorem recLs_length : ∀ {rs : List RecD}, (∀ r ∈ rs, RecOk r) → (rs.map recL).flatten.length = 16 * rs.length
  | [], _ => rfl
  | r :: rs, o => by
    rw [List.map_cons, List.flatten_cons, List.length_append, recL_length (o r (.head _)), recLs_length fun q hq => o q (.tail _ hq), List.length_cons]; lia
section
variable {w : World} {A : Around} {E : Value → Shared → Prop} {h₀ hb h h' : Heap} {g : Array GenState} {d : Drawn} {t tk : Nat} {os : OsState} {L x dx ba a b : Addr} {mg mb : Str → Option Value} {mean : ExcName → Option Value} {ns : List Str} {vs : List (Option Value)} {news rest : List (Addr × Obj)} {l m : List UInt8} {es : List DictEntry} {n : Nat}
  {env : Env} {pos : Pos} {s : Shared}
theorem outAt {fs : List (Str × Value)} (F : Fm h₀ L ns vs (OutC ba dx x l es n ++ rest) h) (rep : Rep fs es) : At h x 272 fs := At.mem F rep (List.mem_append_left _ (.tail _ (.tail _ (.head _)))) (List.mem_append_left _ (.tail _ (.head _)))
theorem callR {f : Addr} {qual : Str} {body : List Stmt} {cdv : Value} {params nsF : List Str} {vals : List Value} {cs : Scope} {gs bs : List (Str × Value)} {Q : Value → Shared → Prop} (D : Df w f qual body cs cdv params [] nsF gs bs)
    (W : Wd w mg mb mean h) (hroom : A.depth < recursionLimit) (hlen : vals.length = params.length)
    (hbody : ∀ L h₁ tk₁, Fm h L nsF (vals.map some ++ List.replicate (nsF.length - params.length) none) [] h₁ →
      wpR (Mo w) (A.deeper (envOf qual cs L f cdv)) (execs body (envOf qual cs L f cdv)) (fun fl s' => Q (match fl with | .ret v => v | _ => .none) s') ⟨h₁, g, d, tk₁, os⟩) :
    wpR (Mo w) A (call (.ref f) vals) Q ⟨h, g, d, tk, os⟩ :=
  wpR_call (callFR (news := []) D W Ext.rfl (fun _ h => nomatch h) (by simp) hroom hlen fun L h₁ tk₁ W₀ _ F => hbody L h₁ tk₁ F)
theorem directory_octets_c {hB : Heap} {D : Addr} {xs : List Value} {ep : Nat} {rs : List RecD} {t₁ : Tok} {Q : Value → Shared → Prop} (W : Wd w mg mb mean hB) (R : Rm 9 A) (hh : A.handled = none) (hD : hB.get? D = some (lsO xs ep)) (hr : Recs hB xs rs) (ok : ∀ r ∈ rs, RecOk r)
    (h2 : 2 ≤ rs.length) (h6 : rs.length ≤ 6)
    (hq : ∀ h' t tk' s3, Ext hB h' → s3.length = 6 → Q (.bytes (dirL s3 rs).toArray t) ⟨h', g, d, tk', os⟩) : wpR (Mo w) A (call (.ref 409) [.int 65536 t₁, .ref D]) Q ⟨hB, g, d, tk, os⟩ := by
  refine callR (df_directory_octets w) W R.room rfl fun L h₁ tk₁ F => ?_
  have Y := (df_directory_octets w).fi
  (wtm_at "f0")
  refine R_cons (R_assign (R_callName ?_))
  repeat (wtm_at "ev")
  refine R_cwK0 (W.k.keeps F.keep) (by kernel_rfl) ?_
  refine Out_new_c (W.keeps F.keep) R.deep.le fun h' ba dx x es n tk' k hc nd rep => ?_
  replace F := F.fresh k hc nd
  repeat (wtm_at "ev")
  refine R_cons (R_expr (R_callA ?_))
  repeat (wtm_at "ev")
  refine RMeth.inst W F (outAt (rest := []) F rep) (by wtm_at "mem") (by kernel_rfl) (R_cwK W (by kernel_rfl) ?_)
  repeat (wtm_at "ev")
  refine ⟨F.keep, Out_u32_c (rest := []) W F R.deep.le (by exact hh) rep (by decide) (by decide) (by simp) fun h tk F => ⟨rfl, ?_⟩⟩
  refine R_cons (R_expr (R_callA ?_))
  repeat (wtm_at "ev")
  refine RMeth.inst W F (outAt (rest := []) F rep) (by wtm_at "mem") (by kernel_rfl) (R_cwK W (by kernel_rfl) ?_)
  repeat (wtm_at "ev")
  refine r_lenL (Ls.of (F.keep _ _ hD)) (by rw [hr.len]; lia) ?_
  repeat (wtm_at "ev")
  refine ⟨F.keep, Out_u16_c (rest := []) W F R.deep.le (by exact hh) rep (by lia) (by rw [hr.len]; lia) (by simp [beL_length]) fun h tk F => ⟨rfl, ?_⟩⟩
  refine R_cons (R_expr (R_callA ?_))
  repeat (wtm_at "ev")
  refine RMeth.inst W F (outAt (rest := []) F rep) (by wtm_at "mem") (by kernel_rfl) (R_cwK W (by kernel_rfl) ?_)
  repeat (wtm_at "ev")
  refine r_lenL (Ls.of (F.keep _ _ hD)) (by rw [hr.len]; lia) ?_
  repeat (wtm_at "ev")
  refine search_numbers_c (W.keeps F.keep) R.deep.le (by exact hh) (by rw [hr.len]; lia) (by rw [hr.len]; lia) fun h' a p s t1 t2 t3 tk' k p1 p2 s1 s2 Ia => ?_
  have F := F.ext k
  repeat (wtm_at "ev")
  refine ⟨F.keep, Out_rows_c (rest := []) (ks := [16 * p, s, 16 * (xs.length - p)]) W F R.deep.le (by exact hh) rep Ia (.cons _ _ (.cons _ _ (.cons _ _ .nil))) (fun k hk => ?_) (by simp) (by simp [beL_length]) fun h tk F => ⟨rfl, ?_⟩⟩
  · have := hr.len
    simp only [List.mem_cons, List.not_mem_nil, or_false] at hk
    rcases hk with rfl | rfl | rfl <;> lia
  obtain ⟨s3, hs3⟩ : ∃ s3, s3 = ([16 * p, s, 16 * ((xs.length : Int) - p)].map fun k => beL 2 k.toNat).flatten := ⟨_, rfl⟩
  have hl3 : s3.length = 6 := by rw [hs3]; simp [beL_length]
  rw [← hs3] at F
  obtain ⟨pre, hpre⟩ : ∃ pre, pre = beL 4 65536 ++ beL 2 rs.length ++ s3 := ⟨_, rfl⟩
  have epre : (([] ++ beL 4 (65536 : Int).toNat) ++ beL 2 ((xs.length : Nat) : Int).toNat) ++ s3 = pre ++ ((rs.take 0).map recL).flatten := by rw [hpre, hr.len]; simp
  have hpl : pre.length = 12 := by rw [hpre]; simp [beL_length, hl3]
  rw [epre] at F
  refine R_cons (R_For ?_)
  repeat (wtm_at "ev")
  refine r_iterL F (Ls.of (F.keep _ _ hD)) fun I h3 oI F3 st3 neI k3 => ?_
  clear F
  refine codeR_for 3 En.fn Y (Walks.list (by exact hh) I D (Ne.symm neI) xs.toArray) st_list
    (fun i vs news => (∃ c, vs = [some (.int 65536 t₁), some (.ref D), some (.ref x), c]) ∧ news = OutC ba dx x (pre ++ ((rs.take i).map recL).flatten) es n ++ []) (fun b hb => ?_) rfl F3 st3 ⟨⟨_, rfl⟩, rfl⟩ ?_ ?_
  · rcases List.mem_cons.mp hb with rfl | q
    · exact .inl rfl
    · obtain rfl := List.mem_singleton.mp q
      exact .inr (.inl ⟨_, hD⟩)
  · intro i v vs₁ news₁ h tk oI hi pv hJ0 F
    (wtm_at "pc")
    obtain ⟨⟨c, rfl⟩, rfl⟩ := hJ0
    (wtm_at "pu")
    (wtm_at "fs")
    have hi' : i < rs.length := by rw [← hr.len]; simpa using hi
    have oki := ok _ (List.getElem_mem hi')
    (wtm_at "pc")
    obtain ⟨v', ev, xr, t1, t2, t3, t4, t5, rfl, atr⟩ := hr.get hi'
    (wtm_at "pu")
    obtain rfl : v = .ref xr := by
      have pv' : xs[i]? = some v := by simpa using pv
      rw [ev] at pv'; cases pv'; rfl
    have hlen : (((rs.take i).map recL).flatten).length ≤ 96 := by
      rw [recLs_length fun r hr' => ok r (List.mem_of_mem_take hr')]
      have : (rs.take i).length ≤ rs.length := by simp; lia
      lia
    have ho4 : (octsOf rs[i].tag).length = 4 := by simp [octsOf, oki.four]
    replace F := F.perm (List.perm_append_comm (l₁ := [(I, oI)]) (l₂ := OutC ba dx x (pre ++ ((rs.take i).map recL).flatten) es n ++ []))
    rw [List.append_nil] at F
    refine R_cons (R_expr (R_callA ?_))
    repeat (wtm_at "ev")
    refine RMeth.inst W F (outAt (rest := [(I, oI)]) F rep) (by wtm_at "mem") (by kernel_rfl) (R_cwK W (by kernel_rfl) ?_)
    repeat (wtm_at "ev")
    refine ⟨F.keep, Out_tag_c (rest := [(I, oI)]) W F R.deep.le (by exact hh) rep oki.asc oki.four (by simp only [List.length_append]; lia) fun h tk F => ⟨rfl, ?_⟩⟩
    refine R_cons (R_expr (R_callA ?_))
    repeat (wtm_at "ev")
    refine RMeth.inst W F (outAt (rest := [(I, oI)]) F rep) (by wtm_at "mem") (by kernel_rfl) (R_cwK W (by kernel_rfl) ?_)
    repeat (wtm_at "ev")
    refine ⟨F.keep, Out_u32_c (rest := [(I, oI)]) W F R.deep.le (by exact hh) rep oki.t0 oki.t1 (by simp only [List.length_append, beL_length]; lia) fun h tk F => ⟨rfl, ?_⟩⟩
    refine R_cons (R_expr (R_callA ?_))
    repeat (wtm_at "ev")
    refine RMeth.inst W F (outAt (rest := [(I, oI)]) F rep) (by wtm_at "mem") (by kernel_rfl) (R_cwK W (by kernel_rfl) ?_)
    repeat (wtm_at "ev")
    refine ⟨F.keep, Out_u32_c (rest := [(I, oI)]) W F R.deep.le (by exact hh) rep oki.b0 oki.b1 (by simp only [List.length_append, beL_length]; lia) fun h tk F => ⟨rfl, ?_⟩⟩
    refine R_cons (R_expr (R_callA ?_))
    repeat (wtm_at "ev")
    refine RMeth.inst W F (outAt (rest := [(I, oI)]) F rep) (by wtm_at "mem") (by kernel_rfl) (R_cwK W (by kernel_rfl) ?_)
    repeat (wtm_at "ev")
    refine ⟨F.keep, Out_u32_c (rest := [(I, oI)]) W F R.deep.le (by exact hh) rep oki.l0 oki.l1 (by simp only [List.length_append, beL_length]; lia) fun h tk F => ⟨rfl, ?_⟩⟩
    refine R_nil ⟨rfl, _, _, _, _, rfl, F.perm (List.perm_append_comm (l₂ := [(I, oI)])), ⟨_, rfl⟩, ?_⟩
    rw [List.take_add_one, List.getElem?_eq_getElem hi', Option.toList_some, List.map_append, List.flatten_append, List.append_nil]
    simp only [List.map_cons, List.map_nil, List.flatten_cons, List.flatten_nil, List.append_nil, recL, List.append_assoc]
    rfl
  · intro vs₁ news₁ h tk hJ0 F
    (wtm_at "pc")
    obtain ⟨⟨c, rfl⟩, rfl⟩ := hJ0
    (wtm_at "pu")
    have ef : rs.take xs.toArray.size = rs := by rw [List.size_toArray, hr.len, List.take_length]
    rw [ef] at F
    refine R_cons (R_return (wpR_lift ?_))
    have aO := outAt (rest := []) F rep
    repeat (wtm_at "ev")
    refine Out_octets_c (W.keeps F.keep) R.deep.le aO (F.get (.head _)) ?_ fun h' t tk' k => ?_
    · simp only [List.length_append]; rw [recLs_length ok]; lia
    rw [hpre]
    exact hq _ _ _ s3 (F.keep.trans k) hl3
end
section
variable {w : World} {A : Around} {E : Value → Shared → Prop} {h₀ hb h h' : Heap} {g : Array GenState} {d : Drawn} {t tk : Nat} {os : OsState} {L x dx ba a b : Addr} {mg mb : Str → Option Value} {mean : ExcName → Option Value} {ns : List Str} {vs : List (Option Value)} {news rest : List (Addr × Obj)} {l m : List UInt8} {es : List DictEntry} {n : Nat}
  {env : Env} {pos : Pos} {s : Shared}
theorem with_adjustment_c {hB : Heap} {sp : Int} {t₁ t₂ : Tok} {Q : Value → Shared → Prop} (W : Wd w mg mb mean hB) (R : Rm 9 A) (hh : A.handled = none) (hl : l.length ≤ 1000) (h0 : 0 ≤ sp) (h1 : sp ≤ 1000)
    (hq : ∀ h' t tk' a4, Ext hB h' → a4.length = 4 → Q (.bytes (l.take sp.toNat ++ a4 ++ l.drop (sp.toNat + 4)).toArray t) ⟨h', g, d, tk', os⟩) : wpR (Mo w) A (call (.ref 416) [.bytes l.toArray t₁, .int sp t₂]) Q ⟨hB, g, d, tk, os⟩ := by
  refine callR (df_with_adjustment w) W R.room rfl fun L h₁ tk₁ F => ?_
  have Y := (df_with_adjustment w).fi
  (wtm_at "f0")
  have hl16 : l.length ≤ 16777216 := by lia
  have hsp4 : 0 ≤ sp + 4 := by lia
  refine R_cons (R_assign (R_callName ?_))
  repeat (wtm_at "ev")
  refine R_cwK0 (W.k.keeps F.keep) (by kernel_rfl) ?_
  refine Out_new_c (W.keeps F.keep) R.deep.le fun h' ba dx x es n tk' k hc nd rep => ?_
  replace F := F.fresh k hc nd
  repeat (wtm_at "ev")
  refine R_cons (R_expr (R_callA ?_))
  repeat (wtm_at "ev")
  refine RMeth.inst W F (outAt (rest := []) F rep) (by wtm_at "mem") (by kernel_rfl) (R_cwK W (by kernel_rfl) ?_)
  repeat (wtm_at "ev")
  refine checksum_c (W.keeps F.keep) R.deep.le (by exact hh) hl fun h' t tk' k => ?_
  replace F := F.ext k
  repeat (wtm_at "ev")
  refine PySem.AutoIntOps.pow_4 (by decide) (by decide) (by decide) (by decide) (by decide +kernel) ?_
  show wpAny _ _ (binaryOp Operator.Mod (Value.int (2981146554 - csum l) tk') (Value.int 4294967296 (tk' + 1 + 1 + 1))) _ _ ⟨_, _, _, _, _⟩
  repeat (wtm_at "ev")
  have hv0 : 0 ≤ (2981146554 - csum l).fmod 4294967296 := Int.fmod_nonneg_of_pos _ (by decide)
  have hv1 : (2981146554 - csum l).fmod 4294967296 < 4294967296 := Int.fmod_lt_of_pos _ (by decide)
  refine ⟨F.keep, Out_u32_c (rest := []) W F R.deep.le (by exact hh) rep hv0 hv1 (by simp) fun h tk F => ⟨rfl, ?_⟩⟩
  generalize (2981146554 - csum l).fmod 4294967296 = v at F
  obtain ⟨a4, ha4⟩ : ∃ a4, a4 = [] ++ beL 4 v.toNat := ⟨_, rfl⟩
  have hl4 : a4.length = 4 := by rw [ha4]; simp [beL_length]
  rw [← ha4] at F
  refine R_cons (R_return (wpR_lift ?_))
  repeat (wtm_at "ev")
  have aO := outAt (rest := []) F rep
  repeat (wtm_at "ev")
  refine Out_octets_c (W.keeps F.keep) R.deep.le aO (F.get (.head _)) (by first | (rw [hl4]; decide) | lia) fun h' t tk' k => ?_
  replace F := F.ext k
  repeat (wtm_at "ev")
  rw [show (sp + 4).toNat = sp.toNat + 4 from Int.toNat_add (by assumption) (by decide)]
  exact hq _ _ _ a4 F.keep hl4
end
structure TagOk (y : Str) : Prop where
  four : y.cps.size = 4
  lo : ∀ c ∈ y.cps.toList, 32 ≤ c
  hi : ∀ c ∈ y.cps.toList, c ≤ 126
theorem TagOk.asc {y : Str} (o : TagOk y) : Asc y := by
  unfold Asc
  rw [← Array.all_toList, List.all_eq_true]
  intro c hc
  have := o.hi c hc
  simp; lia
theorem one_lt (a b : Nat) : (decide (([a] : List Nat) < [b])) = decide (a < b) := by
  have : ([a] < [b]) ↔ a < b := by
    constructor
    · intro h
      cases h with
      | rel h => exact h
      | cons h => cases h
    · exact fun h => .rel h
  simp [this]
section
variable {w : World} {A : Around} {E : Value → Shared → Prop} {h₀ hb h h' : Heap} {g : Array GenState} {d : Drawn} {t tk : Nat} {os : OsState} {L x dx ba a b : Addr} {mg mb : Str → Option Value} {mean : ExcName → Option Value} {ns : List Str} {vs : List (Option Value)} {news rest : List (Addr × Obj)} {l m : List UInt8} {es : List DictEntry} {n : Nat}
  {env : Env} {pos : Pos} {s : Shared}
theorem sign_in {y : Str} {i : Nat} {v : Value} (p : SignAt y i v) : ∃ c u, c ∈ y.cps.toList ∧ v = .str ⟨#[c]⟩ u := by
  (wtm_at "pc")
  obtain ⟨c, u, e, rfl⟩ := p
  (wtm_at "pu")
  exact ⟨c, u, Array.mem_toList_iff.mpr (Array.mem_of_getElem? e), rfl⟩
theorem sign_cmp {y : Str} {A : Around} : CmpOf pw w A .Lt (SignAt y) (fun i j => decide ((y.cps.getD i 0) < (y.cps.getD j 0))) := fun i j vi vj s Q E p q h => by
  (wtm_at "pc")
  obtain ⟨c, u, e, rfl⟩ := p
  (wtm_at "pu")
  (wtm_at "pc")
  obtain ⟨c', u', e', rfl⟩ := q
  (wtm_at "pu")
  refine r_ltS ?_
  rw [show ((⟨#[c]⟩ : Str).cps.toList) = [c] from rfl, show ((⟨#[c']⟩ : Str).cps.toList) = [c'] from rfl, one_lt]
  simpa [Array.getD_eq_getD_getElem?, e, e'] using h
theorem sign_cmpG {y : Str} {A : Around} : CmpOf pw w A .Gt (SignAt y) (fun i j => decide ((y.cps.getD j 0) < (y.cps.getD i 0))) := fun i j vi vj s Q E p q h => by
  (wtm_at "pc")
  obtain ⟨c, u, e, rfl⟩ := p
  (wtm_at "pu")
  (wtm_at "pc")
  obtain ⟨c', u', e', rfl⟩ := q
  (wtm_at "pu")
  refine r_gtS ?_
  rw [show ((⟨#[c]⟩ : Str).cps.toList) = [c] from rfl, show ((⟨#[c']⟩ : Str).cps.toList) = [c'] from rfl, one_lt]
  simpa [Array.getD_eq_getD_getElem?, e, e'] using h
theorem r_minS {y : Str} {t : Tok} {Q : Value → Shared → Prop} (hh : A.handled = none) (hy : Asc y) (hn : 0 < y.cps.size) (hq : ∀ c u h' tk, c ∈ y.cps.toList → Ext h h' → Q (.str ⟨#[c]⟩ u) ⟨h', g, d, tk, os⟩) : wpAny (Mo w) A (call (.builtin "min") [.str y t]) Q E ⟨h, g, d, tk, os⟩ := by
  refine call_min_walk (wpAny_pyIter_ascii hy ⟨_, _, _, _, _, _, _, rfl, Walks.strAscii (A := A.in1) hh h.objs.size y t, ⟨_, Heap.get?_push_size _ rfl, rfl, rfl⟩, fun b hb => ?_, hn, sign_cmp, fun v h' tk hP hk => ?_⟩)
  · obtain rfl := List.mem_singleton.mp hb; rw [Heap.size_push]; exact Nat.lt_succ_self _
  · (wtm_at "pc")
    obtain ⟨c, u, hc, rfl⟩ := sign_in hP
    (wtm_at "pu")
    exact hq c u h' tk hc fun b o e => hk b o (fun z => by rw [List.mem_singleton.mp z, Heap.get?_none_of_le (Nat.le_refl _)] at e; cases e) (Heap.get?_push_of_some _ e)
theorem r_maxS {y : Str} {t : Tok} {Q : Value → Shared → Prop} (hh : A.handled = none) (hy : Asc y) (hn : 0 < y.cps.size) (hq : ∀ c u h' tk, c ∈ y.cps.toList → Ext h h' → Q (.str ⟨#[c]⟩ u) ⟨h', g, d, tk, os⟩) : wpAny (Mo w) A (call (.builtin "max") [.str y t]) Q E ⟨h, g, d, tk, os⟩ := by
  refine call_max_walk (wpAny_pyIter_ascii hy ⟨_, _, _, _, _, _, _, rfl, Walks.strAscii (A := A.in1) hh h.objs.size y t, ⟨_, Heap.get?_push_size _ rfl, rfl, rfl⟩, fun b hb => ?_, hn, sign_cmpG, fun v h' tk hP hk => ?_⟩)
  · obtain rfl := List.mem_singleton.mp hb; rw [Heap.size_push]; exact Nat.lt_succ_self _
  · (wtm_at "pc")
    obtain ⟨c, u, hc, rfl⟩ := sign_in hP
    (wtm_at "pu")
    exact hq c u h' tk hc fun b o e => hk b o (fun z => by rw [List.mem_singleton.mp z, Heap.get?_none_of_le (Nat.le_refl _)] at e; cases e) (Heap.get?_push_of_some _ e)
theorem need_tables_c {hB : Heap} {kvs : List (Str × Value)} {t₁ : Tok} {Q : Value → Shared → Prop} (W : Wd w mg mb mean hB) (R : Rm 3 A) (hh : A.handled = none) (dk : Dk w hB a kvs) (ok : ∀ k ∈ kvs.map (·.1), TagOk k) (h0 : 0 < kvs.length) (h6 : kvs.length ≤ 6)
    (hq : ∀ h' tk', Ext hB h' → Q .none ⟨h', g, d, tk', os⟩) : wpAny (Mo w) A (call (.ref 402) [.int 65536 t₁, .ref a]) Q E ⟨hB, g, d, tk, os⟩ := by
  refine callP (df_need_tables w) W R.room rfl fun L h₁ tk₁ F => ?_
  have Y := (df_need_tables w).fi
  (wtm_at "f0")
  refine wpAny_execs_cons ?_
  repeat (wtm_at "ev")
  refine r_notVer ((versions_at W).ext F.keep) ?_
  repeat (wtm_at "ev")
  refine PyProof.Rows.isTrue_chain ?_
  repeat (wtm_at "ev")
  refine PyProof.Rows.test_link ?_
  repeat (wtm_at "ev")
  refine r_lenD (dk.ext F.keep) (by lia) ?_
  repeat (wtm_at "ev")
  refine r_ifT (by simp only [decide_eq_true_eq]; lia) ?_
  refine PyProof.Rows.test_last ?_
  repeat (wtm_at "ev")
  refine r_ifF (by simp only [Bool.not_eq_true', decide_eq_false_iff_not, Bool.not_eq_true]; simp; lia) ?_
  repeat (wtm_at "ev")
  refine r_iterD F (dk.ext F.keep) fun I h3 oI ep F3 st3 neI k3 => ?_
  clear F
  refine for_at 2 En.fn Y (Walks.dictKeys (knd := kS w) (by exact hh) I a neI kvs ep) st_dict (fun i vs news => (∃ c, vs = [some (.int 65536 t₁), some (.ref a), c]) ∧ news = []) (fun b hb => ?_) rfl F3 st3 ⟨⟨_, rfl⟩, rfl⟩ ?_ ?_
  · rcases List.mem_cons.mp hb with rfl | q
    · exact .inl rfl
    · obtain rfl := List.mem_singleton.mp q
      (wtm_at "pc")
      obtain ⟨o, e, _⟩ := Heap.dictOf_iff.mp dk.of
      (wtm_at "pu")
      exact .inr (.inl ⟨o, e⟩)
  · intro i v vs₁ news₁ h tk oI hi hJ0 hJ1 F
    (wtm_at "pc")
    obtain ⟨k, z, hk, hv⟩ := hJ0
    obtain ⟨⟨c, rfl⟩, rfl⟩ := hJ1
    (wtm_at "pu")
    (wtm_at "fs")
    obtain ⟨u, rfl⟩ := Value.isStrOf_shape hv
    have o := ok k (List.mem_map.mpr ⟨_, List.mem_of_getElem? hk, rfl⟩)
    have h4 := o.four
    repeat (wtm_at "ev")
    refine r_lenS (by lia) ?_
    rw [h4]
    repeat (wtm_at "ev")
    refine r_ifF (by decide) ?_
    repeat (wtm_at "ev")
    refine r_minS (by exact hh) o.asc (by lia) fun c u h' tk hc k => ?_
    replace F := F.ext k
    repeat (wtm_at "ev")
    refine r_ltS ?_
    repeat (wtm_at "ev")
    have hc1 := o.lo c hc
    refine r_ifF (by rw [show ((⟨#[c]⟩ : Str).cps.toList) = [c] from rfl, show ((PySem.Str.ofString " ").cps.toList) = [32] from by decide +kernel, one_lt]; simp; lia) ?_
    repeat (wtm_at "ev")
    refine r_maxS (by exact hh) o.asc (by lia) fun c u h' tk hc k => ?_
    replace F := F.ext k
    repeat (wtm_at "ev")
    refine r_gtS ?_
    repeat (wtm_at "ev")
    have hc1 := o.hi c hc
    refine r_ifF (by rw [show ((⟨#[c]⟩ : Str).cps.toList) = [c] from rfl, show ((PySem.Str.ofString "~").cps.toList) = [126] from by decide +kernel, one_lt]; simp; lia) ?_
    repeat (wtm_at "ev")
    exact ⟨rfl, _, _, _, _, rfl, F, ⟨_, rfl⟩, rfl⟩
  · intro vs₁ news₁ h tk hJ0 F
    (wtm_at "pc")
    obtain ⟨⟨c, rfl⟩, rfl⟩ := hJ0
    (wtm_at "pu")
    repeat (wtm_at "ev")
    exact hq _ _ F.keep
end
section
variable {w : World} {A : Around} {E : Value → Shared → Prop} {h₀ h : Heap} {g : Array GenState} {d : Drawn} {tk : Nat} {os : OsState} {L D a : Addr} {ns : List Str} {vs : List (Option Value)} {news : List (Addr × Obj)} {kvs : List (Str × Value)}
theorem ascS_at {ks : List Str} (asc : ∀ (i : Nat) (a b : Str), ks[i]? = some a → ks[i + 1]? = some b → a.cps.toList < b.cps.toList) : ∀ (k i : Nat) (a b : Str), ks[i]? = some a → ks[i + 1 + k]? = some b → a.cps.toList < b.cps.toList
  | 0, i, a, b, e1, e2 => asc i a b e1 e2
  | k + 1, i, a, b, e1, e2 => by
    have hlt : i + 1 + k < ks.length := by
      have := (List.getElem?_eq_some_iff.mp e2).1; lia
    exact List.lt_trans (ascS_at asc k i a ks[i + 1 + k] e1 (List.getElem?_eq_getElem hlt)) (asc (i + 1 + k) _ b (List.getElem?_eq_getElem hlt) e2)
theorem r_sortedD {Q : Value → Shared → Prop} (F : Fm h₀ L ns vs news h) (hh : A.handled = none) (dk : Dk w h a kvs) (asc : ∀ (i : Nat) (x y : Str), (kvs.map (·.1))[i]? = some x → (kvs.map (·.1))[i + 1]? = some y → x.cps.toList < y.cps.toList) (h2 : 2 ≤ kvs.length) (h7 : kvs.length ≤ 7)
    (hq : ∀ B ys n h' tk', Strs ys (kvs.map (·.1)) → Fm h₀ L ns vs ((B, lsO ys n) :: news) h' → Q (.ref B) ⟨h', g, d, tk', os⟩) : wpAny (Mo w) A (call (.builtin "sorted") [.ref a]) Q E ⟨h, g, d, tk, os⟩ := by
  (wtm_at "pc")
  obtain ⟨m, f, l⟩ := F.fr
  (wtm_at "pu")
  obtain ⟨ep, hat⟩ := dk.of.dictAt
  refine kdu_sorted (s := ⟨h, g, d, tk, os⟩) (kdl_dict (knd := kS w) (kvs := kvs) (ep := ep) dk.lo) hh f F.led hat (by rw [sizeLine_eq]; lia) fun B h' tk' xs f' N' l1 hl hv => ?_
  have hs : Strs xs (kvs.map (·.1)) := ⟨by rw [hl, List.length_map], fun i v s e1 e2 => by
    (wtm_at "pc")
    obtain ⟨k, x, e3, hk⟩ := hv i v e1
    (wtm_at "pu")
    obtain ⟨t, rfl⟩ := Value.isStrOf_shape hk
    rw [List.getElem?_map, e3] at e2
    cases e2; exact ⟨t, rfl⟩⟩
  refine kas_lsort (vs := xs) (T := .type "str") (g := fun o => (B, o) :: news) f' N' (.head fun p hp e => ?_) rfl (by lia) (by lia) (fun e1 h F N v hv' => ?_) (by decide) fun e1 h'' f'' N'' => ?_
  · have := l1 p hp
    rw [e] at this; exact Nat.lt_irrefl _ this
  · (wtm_at "pc")
    obtain ⟨i, hi, rfl⟩ := List.getElem_of_mem hv'
    (wtm_at "pu")
    have hi2 : i < (kvs.map (·.1)).length := by rw [← hs.len]; exact hi
    obtain ⟨t, e⟩ := hs.at_ i _ _ (List.getElem?_eq_getElem hi) (List.getElem?_eq_getElem hi2)
    rw [e]; exact Looks.of_pure rfl
  · refine kas_det (n := xs.length) (lt := fun i j => decide (i < j)) (fun i j C hi hj hij hC => ?_) _ _ (run_asc xs.length (by lia) (by lia)) ?_
    · have hi2 : i < (kvs.map (·.1)).length := by rw [← hs.len]; exact hi
      have hj2 : j < (kvs.map (·.1)).length := by rw [← hs.len]; exact hj
      obtain ⟨t, ei⟩ := hs.at_ i _ _ (List.getElem?_eq_getElem hi) (List.getElem?_eq_getElem hi2)
      obtain ⟨u, ej⟩ := hs.at_ j _ _ (List.getElem?_eq_getElem hj) (List.getElem?_eq_getElem hj2)
      unfold kas_ask
      rw [List.getD_eq_getElem?_getD, List.getElem?_eq_getElem hi, Option.getD_some, ei, List.getD_eq_getElem?_getD, List.getElem?_eq_getElem hj, Option.getD_some, ej]
      refine kas_lt_str ?_
      have key : ((kvs.map (fun p : Str × Value => p.1))[i]'hi2).cps.toList < ((kvs.map (fun p : Str × Value => p.1))[j]'hj2).cps.toList ↔ i < j := by
        constructor
        · intro hlt
          rcases Nat.lt_trichotomy i j with q | q | q
          · exact q
          · exact absurd q hij
          · have := ascS_at asc (i - j - 1) j _ _ (List.getElem?_eq_getElem hj2) (by rw [gap q]; exact List.getElem?_eq_getElem hi2)
            exact absurd (List.lt_trans hlt this) (List.lt_irrefl _)
        · intro q
          exact ascS_at asc (j - i - 1) i _ _ (List.getElem?_eq_getElem hi2) (by rw [gap q]; exact List.getElem?_eq_getElem hj2)
      simpa only [key] using hC
    · refine KasFin.intro f'' N'' (.head fun p hp e => ?_) fun h3 c f3 N3 => ?_
      · have := l1 p hp
        rw [e] at this; exact Nat.lt_irrefl _ this
      · have eid : (List.range xs.length).map (fun i => xs.getD i Value.none) = xs := by
          refine List.ext_getElem (by simp) fun i h1 h2 => ?_
          simp only [List.getElem_map, List.getElem_range]
          rw [List.getD_eq_getElem?_getD, List.getElem?_eq_getElem h2, Option.getD_some]
        refine hq B xs c h3 tk' hs ⟨⟨m, f3, l⟩, ?_, ?_⟩
        · rw [eid] at N3; exact N3
        · rw [List.map_cons, List.nodup_cons]
          refine ⟨fun q => ?_, F.nd⟩
          (wtm_at "pc")
          obtain ⟨z, hz, e⟩ := List.mem_map.mp q
          (wtm_at "pu")
          have := l1 z hz
          rw [e] at this; exact Nat.lt_irrefl _ this
end
noncomputable abbrev Tb := Str × List UInt8
noncomputable def bodyOf (p : Tb) : List UInt8 := unadj p.1 p.2
noncomputable def recsFrom : Nat → List Tb → List RecD
  | _, [] => []
  | b, p :: r => ⟨p.1, csum (bodyOf p), b, (bodyOf p).length, 0⟩ :: recsFrom (b + (fill (bodyOf p)).length) r
noncomputable def partsOf (ps : List Tb) : List (List UInt8) := ps.map fun p => fill (bodyOf p)
noncomputable def endFrom : Nat → List Tb → Nat
  | b, [] => b
  | b, p :: r => endFrom (b + (fill (bodyOf p)).length) r
noncomputable def spotFrom : Nat → Option Nat → List Tb → Option Nat
  | _, sp, [] => sp
  | b, sp, p :: r => spotFrom (b + (fill (bodyOf p)).length) (if hasAdj p.1 (bodyOf p) then some (b + 8) else sp) r
theorem recsFrom_snoc (p : Tb) : ∀ (l : List Tb) (b : Nat), recsFrom b (l ++ [p]) = recsFrom b l ++ [⟨p.1, csum (bodyOf p), endFrom b l, (bodyOf p).length, 0⟩]
  | [], b => rfl
  | q :: l, b => by rw [List.cons_append, recsFrom, recsFrom_snoc p l]; rfl
theorem endFrom_snoc (p : Tb) : ∀ (l : List Tb) (b : Nat), endFrom b (l ++ [p]) = endFrom b l + (fill (bodyOf p)).length
  | [], b => rfl
  | q :: l, b => by rw [List.cons_append, endFrom, endFrom_snoc p l]; rfl
theorem spotFrom_snoc (p : Tb) : ∀ (l : List Tb) (b : Nat) (sp : Option Nat), spotFrom b sp (l ++ [p]) = if hasAdj p.1 (bodyOf p) then some (endFrom b l + 8) else spotFrom b sp l
  | [], b, sp => rfl
  | q :: l, b, sp => by rw [List.cons_append, spotFrom, spotFrom_snoc p l]; rfl
theorem recsFrom_length : ∀ (l : List Tb) (b : Nat), (recsFrom b l).length = l.length
  | [], _ => rfl
  | p :: l, b => by rw [recsFrom, List.length_cons, recsFrom_length l, List.length_cons]
theorem bodyOf_length (p : Tb) : (bodyOf p).length = p.2.length := by
  unfold bodyOf unadj hasAdj
  split
  · rename_i h
    have : 12 ≤ p.2.length := by simp at h; exact h.2
    simp; lia
  · rfl
structure TbOk (ps : List Tb) : Prop where
  asc : ∀ (i : Nat) (x y : Str), (ps.map (·.1))[i]? = some x → (ps.map (·.1))[i + 1]? = some y → x.cps.toList < y.cps.toList
  tag : ∀ p ∈ ps, TagOk p.1
  len : ∀ p ∈ ps, p.2.length ≤ 16
  two : 2 ≤ ps.length
  six : ps.length ≤ 6
theorem fill_le {l : List UInt8} {n : Nat} (h : l.length ≤ 4 * n) : (fill l).length ≤ 4 * n := by
  rw [fill_length]; unfold pad; lia
theorem endFrom_le : ∀ {ps : List Tb}, (∀ p ∈ ps, p.2.length ≤ 16) → ∀ b, endFrom b ps ≤ b + 16 * ps.length
  | [], _, b => by simp [endFrom]
  | p :: ps, h, b => by
    have h1 := endFrom_le (ps := ps) (fun q hq => h q (.tail _ hq)) (b + (fill (bodyOf p)).length)
    have h2 := fill_le (l := bodyOf p) (n := 4) (by rw [bodyOf_length]; exact h p (.head _))
    rw [endFrom, List.length_cons]; lia
theorem csum_range (l : List UInt8) : 0 ≤ csum l ∧ csum l < 4294967296 := by unfold csum; lia
theorem recsFrom_ok : ∀ {ps : List Tb}, (∀ p ∈ ps, TagOk p.1) → (∀ p ∈ ps, p.2.length ≤ 16) → ∀ b, b + 16 * ps.length ≤ 1000 → ∀ r ∈ recsFrom b ps, RecOk r
  | [], _, _, _, _, r, hr => nomatch hr
  | p :: ps, ht, hl, b, hb, r, hr => by
    have h2 := fill_le (l := bodyOf p) (n := 4) (by rw [bodyOf_length]; exact hl p (.head _))
    have h3 : (bodyOf p).length ≤ 16 := by rw [bodyOf_length]; exact hl p (.head _)
    rw [List.length_cons] at hb
    rcases List.mem_cons.mp hr with rfl | hr
    · have := csum_range (bodyOf p)
      exact ⟨(ht p (.head _)).asc, (ht p (.head _)).four, this.1, this.2, by simp only []; lia, by simp only []; lia, by simp only []; lia, by simp only []; lia⟩
    · exact recsFrom_ok (fun q hq => ht q (.tail _ hq)) (fun q hq => hl q (.tail _ hq)) _ (by lia) r hr
theorem parts_len : ∀ {ps : List Tb}, (∀ p ∈ ps, p.2.length ≤ 16) → (partsOf ps).flatten.length ≤ 16 * ps.length
  | [], _ => by simp [partsOf]
  | p :: ps, h => by
    have h1 := parts_len (ps := ps) (fun q hq => h q (.tail _ hq))
    have h2 := fill_le (l := bodyOf p) (n := 4) (by rw [bodyOf_length]; exact h p (.head _))
    have e : (partsOf (p :: ps)).flatten.length = (fill (bodyOf p)).length + (partsOf ps).flatten.length := by simp [partsOf]
    rw [e, List.length_cons]; lia
noncomputable def sfntL (s3 : List UInt8) (ps : List Tb) : List UInt8 := dirL s3 (recsFrom (12 + 16 * ps.length) ps) ++ (partsOf ps).flatten
noncomputable def Wrote (ps : List Tb) (f : List UInt8) : Prop := ∃ s3, s3.length = 6 ∧ match spotFrom (12 + 16 * ps.length) none ps with
  | none => f = sfntL s3 ps
  | some sp => ∃ a4, a4.length = 4 ∧ f = (sfntL s3 ps).take sp ++ a4 ++ (sfntL s3 ps).drop (sp + 4)
theorem dirL_length {s3 : List UInt8} {rs : List RecD} (h : s3.length = 6) (o : ∀ r ∈ rs, RecOk r) : (dirL s3 rs).length = 12 + 16 * rs.length := by
  unfold dirL
  rw [List.length_append, List.length_append, List.length_append, beL_length, beL_length, h, recLs_length o]
theorem spot_le {n : Nat} : ∀ {ps : List Tb} {b : Nat} {sp : Option Nat}, spotFrom b sp ps = some n → (∀ m, sp = some m → m ≤ b + 8) → n ≤ endFrom b ps + 8
  | [], b, sp, h, hs => hs n h
  | p :: ps, b, sp, h, hs => by
    refine spot_le (ps := ps) (b := b + (fill (bodyOf p)).length) h fun m hm => ?_
    split at hm
    · cases hm; lia
    · have := hs m hm; lia
noncomputable def SpV (v : Value) : Option Nat → Prop
  | none => v = .none
  | some n => ∃ t, v = .int n t
theorem perm5 {α : Type} (a b c d e : α) (l : List α) : (a :: b :: c :: d :: e :: l).Perm (e :: b :: a :: c :: d :: l) := by
  (wtm_at "pm")
section
variable {w : World} {A : Around} {E : Value → Shared → Prop} {h₀ hb h h' : Heap} {g : Array GenState} {d : Drawn} {t tk : Nat} {os : OsState} {L x dx ba a b : Addr} {mg mb : Str → Option Value} {mean : ExcName → Option Value} {ns : List Str} {vs : List (Option Value)} {news rest : List (Addr × Obj)} {l m : List UInt8} {es : List DictEntry} {n : Nat}
  {env : Env} {pos : Pos} {s : Shared}
theorem r_unpack3 {tt : Addr} {v1 v2 v3 : Value} {x y z : Str} {Q : Unit → Shared → Prop} (hh : A.handled = none) (ht : Tp h tt [v1, v2, v3])
    (hq : ∀ h', Ext h h' → wpAny (Mo w) A (storeName env z v3) (fun _ s₁ => wpAny (Mo w) A (storeName env y v2) (fun _ s₂ => wpAny (Mo w) A (storeName env x v1) Q E s₂) E s₁) E ⟨h', g, d, tk, os⟩) :
    wpAny (Mo w) A (unpackItems (.ref tt) [x, y, z].length none) (fun items s₂ => wpAny (Mo w) A (assignInOrder ([x, y, z].reverse.map fun n => bindName env n) items.reverse) Q E s₂) E ⟨h, g, d, tk, os⟩ := by
  refine PyProof.Rows.unpackItems_tuple (items := [v1, v2, v3].toArray) hh ht fun h' he => ?_
  show wpAny _ _ (assignInOrder [bindName env z, bindName env y, bindName env x] [v3, v2, v1]) _ _ _
  refine PyProof.Rows.assignInOrder_cons ?_
  refine PyProof.Rows.bindName_ (wpAny_mono (hq h' fun b o e => he b o (Nat.ne_of_lt (Heap.lt_size e)) e) (fun _ s₁ q => ?_) fun _ _ x => x)
  refine PyProof.Rows.assignInOrder_cons (PyProof.Rows.bindName_ (wpAny_mono q (fun _ s₂ q => ?_) fun _ _ x => x))
  exact PyProof.Rows.assignInOrder_cons (PyProof.Rows.bindName_ (wpAny_mono q (fun _ s₂ q => PyProof.Rows.assignInOrder_nil q) fun _ _ x => x))
theorem ite_join {M : Model} {P : Prop} [Decidable P] {m1 m2 : Sem Flow} {K : Flow → Shared → Prop} (Q : Flow → Shared → Prop) (h1 : P → wpAny M A m1 Q E s) (h2 : ¬ P → wpAny M A m2 Q E s) (hk : ∀ f s', Q f s' → K f s') :
    if P then wpAny M A m1 K E s else wpAny M A m2 K E s := by
  split
  · rename_i c; exact wpAny_mono (h1 c) hk fun _ _ x => x
  · rename_i c; exact wpAny_mono (h2 c) hk fun _ _ x => x
noncomputable def WI (t₁ : Tok) (tb RL PL TL : Addr) (b0 nT : Nat) (ks : List Value) (ps : List Tb) (i : Nat) (vs : List (Option Value)) (news : List (Addr × Obj)) : Prop :=
  ∃ spv tbg c1 c2 xs ep ys ep' more, vs = [some (.int 65536 t₁), some (.ref tb), some (.ref RL), some (.ref PL), some spv, some (.int (endFrom b0 (ps.take i) : Nat) tbg), c1, c2, none] ∧ news = (RL, lsO xs ep) :: (PL, lsO ys ep') :: more ∧
      (TL, lsO ks nT) ∈ more ∧ RecsN more xs (recsFrom b0 (ps.take i)) ∧ BytesAre ys (partsOf (ps.take i)) ∧ SpV spv (spotFrom b0 none (ps.take i))
theorem WI.mk {t₁ : Tok} {tb RL PL TL : Addr} {b0 nT : Nat} {ks : List Value} {ps : List Tb} {i : Nat} {spv : Value} {tbg : Tok} {c1 c2 : Option Value} {xs ys : List Value} {ep ep' : Nat} {more : List (Addr × Obj)} (h1 : (TL, lsO ks nT) ∈ more) (h2 : RecsN more xs (recsFrom b0 (ps.take i))) (h3 : BytesAre ys (partsOf (ps.take i))) (h4 : SpV spv (spotFrom b0 none (ps.take i))) :
    WI t₁ tb RL PL TL b0 nT ks ps i [some (.int 65536 t₁), some (.ref tb), some (.ref RL), some (.ref PL), some spv, some (.int (endFrom b0 (ps.take i) : Nat) tbg), c1, c2, none] ((RL, lsO xs ep) :: (PL, lsO ys ep') :: more) := ⟨_, _, _, _, _, _, _, _, _, rfl, rfl, h1, h2, h3, h4⟩
theorem write_sfnt_c {hB : Heap} {tb : Addr} {kvs : List (Str × Value)} {ps : List Tb} {t₁ : Tok} {Q : Value → Shared → Prop} (W : Wd w mg mb mean hB) (R : Rm 12 A) (hh : A.handled = none) (dk : Dk w hB tb kvs) (by_ : Bys kvs ps) (ok : TbOk ps)
    (hq : ∀ h' t tk' f, Ext hB h' → Wrote ps f → Q (.bytes f.toArray t) ⟨h', g, d, tk', os⟩) : wpR (Mo w) A (call (.ref 423) [.int 65536 t₁, .ref tb]) Q ⟨hB, g, d, tk, os⟩ := by
  have hlen := by_.length
  have h2 := ok.two
  have h6 := ok.six
  refine callR (df_write_sfnt w) W R.room rfl fun L h₁ tk₁ F => ?_
  have Y := (df_write_sfnt w).fi
  (wtm_at "f0")
  refine R_st ?_
  repeat (wtm_at "ev")
  refine need_tables_c (W.keeps F.keep) R.deep.le (by exact hh) (dk.ext F.keep) (fun k hk => ?_) (by lia) (by lia) fun h' tk' k => ?_
  · rw [by_.keys] at hk
    (wtm_at "pc")
    obtain ⟨p, hp, rfl⟩ := List.mem_map.mp hk
    (wtm_at "pu")
    exact ok.tag p hp
  replace F := F.ext k
  repeat (wtm_at "ev")
  refine ⟨rfl, R_st ?_⟩
  refine PyProof.Rows.Assign_Tuple_swapped (names := ["records", "parts", "spot"]) ?_
  repeat (wtm_at "ev")
  refine r_unpack3 (by exact hh) (Tp.of Ia) fun h' k => ?_
  replace F := F.ext k
  repeat (wtm_at "ev")
  refine ⟨rfl, R_st ?_⟩
  repeat (wtm_at "ev")
  refine r_lenD (dk.ext F.keep) (by lia) ?_
  repeat (wtm_at "ev")
  refine directory_size_c' (W.keeps F.keep) R.deep.le fun h' t3 tk' k => ?_
  replace F := F.ext k
  repeat (wtm_at "ev")
  refine ⟨rfl, R_st ?_⟩
  repeat (wtm_at "ev")
  (wtm_at "pc")
  obtain ⟨RL, PL, F⟩ : ∃ RL PL, Fm hB L _ [some (.int 65536 t₁), some (.ref tb), some (.ref RL), some (.ref PL), some .none, some (.int (12 + 16 * (kvs.length : Int)) t3), none, none, none] [(PL, lsO [] 0), (RL, lsO [] 0)] h := ⟨_, _, F⟩
  (wtm_at "pu")
  refine r_sortedD F (by exact hh) (dk.ext F.keep) (by rw [by_.keys]; exact ok.asc) (by lia) (by lia) fun TL ks nT h' tk' sk F => ?_
  rw [by_.keys] at sk
  refine r_iterL F (Ls.of (F.get (.head _))) fun I h3 oI F3 st3 neI k3 => ?_
  clear F
  obtain ⟨b0, hb0⟩ : ∃ b0, b0 = 12 + 16 * ps.length := ⟨_, rfl⟩
  have hks : ks.length = ps.length := by rw [sk.len, List.length_map]
  refine for_at 6 En.fn Y (Walks.list (by exact hh) I TL (Ne.symm neI) ks.toArray) st_list
    (WI t₁ tb RL PL TL b0 nT ks ps) (fun b hb => ?_) rfl
    (F3.perm (news' := (I, oI) :: (RL, lsO [] 0) :: (PL, lsO [] 0) :: [(TL, lsO ks nT)]) ?_) st3 (by rw [show (12 + 16 * (kvs.length : Int)) = ((endFrom b0 (ps.take 0) : Nat) : Int) by rw [hb0, hlen]; simp [endFrom]]; exact WI.mk (.head _) ⟨rfl, fun i v r e => by simp at e⟩ .nil rfl) ?_ ?_
  · rcases List.mem_cons.mp hb with rfl | q
    · exact .inl rfl
    · obtain rfl := List.mem_singleton.mp q
      refine .inr (.inr ⟨lsO ks nT, ?_⟩)
      intro i vs news hJ0
      (wtm_at "pc")
      obtain ⟨_, _, _, _, _, _, _, _, _, rfl, rfl, m, _⟩ := hJ0
      (wtm_at "pu")
      exact .tail _ (.tail _ m)
  · (wtm_at "pm")
  · intro i v vs₁ news₁ h tk oI hi pv hJ0 F
    (wtm_at "pc")
    obtain ⟨spv, tbg, c1, c2, xs, ep, ys, ep', more, rfl, rfl, mT, rn, pb, sp⟩ := hJ0
    (wtm_at "pu")
    (wtm_at "fs")
    have hi' : i < ps.length := by rw [← hks]; simpa using hi
    obtain ⟨pp, hpp⟩ : ∃ pp, ps[i]? = some pp := ⟨_, List.getElem?_eq_getElem hi'⟩
    have mpp := List.mem_of_getElem? hpp
    have pv' : ks[i]? = some v := by simpa using pv
    obtain ⟨tt, rfl⟩ := sk.at_ i v pp.1 pv' (by rw [List.getElem?_map, hpp]; rfl)
    have okp := ok.tag _ mpp
    have lenp := ok.len _ mpp
    obtain ⟨tv, hv⟩ := by_.valueAt (by rw [← by_.keys]; exact dk.nodup) (k := pp.1) (l := pp.2) mpp
    have hkv := dk.ext F.keep
    repeat (wtm_at "ev")
    refine r_itemD (dk.ext F.keep) hv ?_
    repeat (wtm_at "ev")
    refine unadjusted_c (W.keeps F.keep) R.deep.le (by lia) fun h' tu tk' k => ?_
    replace F := F.ext k
    repeat (wtm_at "ev")
    refine has_adjustment_c (W.keeps F.keep) R.deep.le (by rw [show unadj pp.1 pp.2 = bodyOf pp from rfl, bodyOf_length]; lia) fun h' tk' k => ?_
    replace F := F.ext k
    repeat (wtm_at "ev")
    have esp : spotFrom b0 none (ps.take (i + 1)) = if hasAdj pp.1 (bodyOf pp) then some (endFrom b0 (ps.take i) + 8) else spotFrom b0 none (ps.take i) := by
      rw [List.take_add_one, hpp, Option.toList_some, spotFrom_snoc]
    refine ite_join (fun f s' => f = Flow.next ∧ ∃ spv' h' tk', s' = ⟨h', g, d, tk', os⟩ ∧ SpV spv' (spotFrom b0 none (ps.take (i + 1))) ∧
      Fm hB L ["version", "tables", "records", "parts", "spot", "begin", "tag", "body", "data"] [some (.int 65536 t₁), some (.ref tb), some (.ref RL), some (.ref PL), some spv', some (.int (endFrom b0 (ps.take i) : Nat) tbg), some (.str pp.1 tt), some (.bytes (unadj pp.1 pp.2).toArray tu), none]
        ((I, oI) :: (RL, lsO xs ep) :: (PL, lsO ys ep') :: more) h') (fun c => ?_) (fun c => ?_) (fun f s' q => ?_)
    · (wtm_at "ct")
      repeat (wtm_at "ev")
      refine ⟨rfl, _, _, _, rfl, ?_, F⟩
      rw [esp, if_pos (show hasAdj pp.1 (bodyOf pp) = true from c)]
      exact ⟨_, by rw [Int.natCast_add]; rfl⟩
    · (wtm_at "ct")
      repeat (wtm_at "ev")
      refine ⟨rfl, _, _, _, rfl, ?_, F⟩
      rw [esp, if_neg (show ¬ hasAdj pp.1 (bodyOf pp) = true from c)]
      exact sp
    (wtm_at "pc")
    obtain ⟨rfl, spv', h4, tk4, rfl, sp', F⟩ := q
    (wtm_at "pu")
    (try dsimp only)
    have hul : (unadj pp.1 pp.2).length ≤ 16 := by rw [show unadj pp.1 pp.2 = bodyOf pp from rfl, bodyOf_length]; lia
    repeat (wtm_at "ev")
    refine BMeth.append (F.get (.tail _ (.head _))) ?_
    repeat (wtm_at "ev")
    refine checksum_c (W.keeps F.keep) R.deep.le (by exact hh) (by lia) fun h' t1 tk' k => ?_
    replace F := F.ext k
    repeat (wtm_at "ev")
    refine Record_new (W.keeps F.keep) R.deep.le fun h' x dx es n tk' k hn hne rep => ?_
    replace F := F.fresh k hn (by simp [hne])
    repeat (wtm_at "ev")
    have hxs : xs.length ≤ 6 := by
      rw [rn.len, recsFrom_length]; simp; lia
    replace F := F.perm (news' := (RL, lsO xs ep) :: (dx, dictOf es n) :: (x, instObj 308 dx) :: (I, oI) :: (PL, lsO ys ep') :: more) (List.perm_middle (l₁ := [(dx, dictOf es n), (x, instObj 308 dx), (I, oI)]))
    refine r_append F (by lia) fun h nRL F => ?_
    repeat (wtm_at "ev")
    refine BMeth.append (F.get (.tail _ (.tail _ (.tail _ (.tail _ (.head _)))))) ?_
    repeat (wtm_at "ev")
    refine to_fours_c (W.keeps F.keep) R.deep.le (by lia) fun h' t2 tk' k => ?_
    replace F := F.ext k
    repeat (wtm_at "ev")
    have hys : ys.length ≤ 6 := by
      rw [pb.length]; simp [partsOf]; lia
    replace F := F.perm (news' := (PL, lsO ys ep') :: (RL, lsO (xs ++ [Value.ref x]) nRL) :: (dx, dictOf es n) :: (x, instObj 308 dx) :: (I, oI) :: more) (List.perm_middle (l₁ := [(RL, lsO (xs ++ [Value.ref x]) nRL), (dx, dictOf es n), (x, instObj 308 dx), (I, oI)]))
    refine r_append F (by lia) fun h nPL F => ?_
    repeat (wtm_at "ev")
    refine kde_neg (j := ys.length) (v := .bytes (fill (unadj pp.1 pp.2)).toArray t2) ⟨_, F.get (.head _), rfl, _, rfl⟩ (by decide) (by decide) ?_ (by simp) ?_
    · unfold seqIndex?; simp; lia
    have hfl : (fill (unadj pp.1 pp.2)).length ≤ 16 := fill_le (n := 4) hul
    repeat (wtm_at "ev")
    have een : ((endFrom b0 (ps.take i) : Nat) : Int) + ((fill (unadj pp.1 pp.2)).length : Nat) = ((endFrom b0 (ps.take (i + 1)) : Nat) : Int) := by
      rw [List.take_add_one, hpp, Option.toList_some, endFrom_snoc, Int.natCast_add]; rfl
    rw [een] at F
    refine ⟨rfl, _, _, _, _, rfl, F.perm (perm5 _ _ _ _ _ _), WI.mk (more := (dx, dictOf es n) :: (x, instObj 308 dx) :: more) (.tail _ (.tail _ mT)) ?_ ?_ sp'⟩
    · rw [List.take_add_one, hpp, Option.toList_some, recsFrom_snoc]
      exact rn.snoc (fun p hp => .tail _ (.tail _ hp)) (.tail _ (.head _)) (.head _) rep
    · rw [List.take_add_one, hpp, Option.toList_some]
      unfold partsOf at pb ⊢
      rw [List.map_append]
      exact pb.append (.cons .nil)
  · intro vs₁ news₁ h tk hJ0 F
    (wtm_at "pc")
    obtain ⟨spv, tbg, c1, c2, xs, ep, ys, ep', more, rfl, rfl, mT, rn, pb, sp⟩ := hJ0
    (wtm_at "pu")
    have ef : ps.take ks.toArray.size = ps := by rw [List.size_toArray, hks, List.take_length]
    rw [ef] at rn pb sp F
    have hle := endFrom_le ok.len b0
    have hroom : b0 + 16 * ps.length ≤ 1000 := by lia
    refine ⟨rfl, ?_⟩
    refine R_cons (R_assign (R_binop (R_callName ?_)))
    repeat (wtm_at "ev")
    refine R_cwK W (by kernel_rfl) ?_
    repeat (wtm_at "ev")
    refine ⟨F.keep, directory_octets_c (W.keeps F.keep) R.deep.le (by exact hh) (F.get (.head _)) (rn.recs fun p hp => F.get (.tail _ (.tail _ hp))) (recsFrom_ok ok.tag ok.len b0 hroom) (by rw [recsFrom_length]; lia) (by rw [recsFrom_length]; lia) fun h' t4 tk' s3 k hs3 => ?_⟩
    replace F := F.ext k
    repeat (wtm_at "ev")
    refine BMeth.joinB ?_
    repeat (wtm_at "ev")
    have hpl := parts_len ok.len
    refine r_joinB (F.get (.tail _ (.head _))) pb (by lia) fun t5 k5 => ?_
    repeat (wtm_at "ev")
    have hdl := dirL_length hs3 (recsFrom_ok ok.tag ok.len b0 hroom)
    rw [recsFrom_length] at hdl
    have hdat : (dirL s3 (recsFrom b0 ps) ++ (partsOf ps).flatten).length ≤ 1000 := by rw [List.length_append]; lia
    refine r_addb (by rw [List.length_append] at hdat; lia) fun t6 tk6 => ?_
    have esf : dirL s3 (recsFrom b0 ps) ++ (partsOf ps).flatten = sfntL s3 ps := by rw [hb0]; rfl
    rw [esf] at hdat ⊢
    repeat (wtm_at "ev")
    refine R_cons (R_return (R_ifexp ?_))
    repeat (wtm_at "ev")
    cases hsp : spotFrom b0 none ps with
    | none =>
      rw [hsp] at sp
      obtain rfl := sp
      refine wpAny_is_self (by rfl) ?_
      repeat (wtm_at "ev")
      refine wpR_lift ?_
      repeat (wtm_at "ev")
      exact hq _ _ _ _ F.keep ⟨s3, hs3, by rw [← hb0, hsp]⟩
    | some n =>
      rw [hsp] at sp
      obtain ⟨tn, rfl⟩ := sp
      have hn := spot_le hsp (by simp)
      refine is_int_none ?_
      repeat (wtm_at "ev")
      refine R_callName ?_
      repeat (wtm_at "ev")
      refine R_cwK W (by kernel_rfl) ?_
      repeat (wtm_at "ev")
      refine ⟨F.keep, with_adjustment_c (W.keeps F.keep) R.deep.le (by exact hh) hdat (by lia) (by lia) fun h' t6 tk' a4 k ha4 => ?_⟩
      exact hq _ _ _ _ (F.keep.trans k) ⟨s3, hs3, by rw [← hb0, hsp]; exact ⟨a4, ha4, by simp⟩⟩
end
noncomputable def IsL (o : Obj) (xs : List Value) : Prop := o.cls = .type "list" ∧ ∃ n, o.data = .seq xs.toArray n
theorem IsL.of (xs : List Value) (n : Nat) : IsL (lsO xs n) xs := ⟨rfl, n, rfl⟩
section
variable {w : World} {A : Around} {E : Value → Shared → Prop} {h₀ hb h h' : Heap} {g : Array GenState} {d : Drawn} {t tk : Nat} {os : OsState} {L S a b c : Addr} {mg mb : Str → Option Value} {mean : ExcName → Option Value} {ns cns : List Str} {vs : List (Option Value)} {news rest : List (Addr × Obj)} {l m : List UInt8} {n : Nat}
  {env : Env} {pos : Pos} {s : Shared} {cs : Scope} {gs bs : List (Str × Value)} {cl : List (Str × Addr)} {x : Str} {v : Value} {i j : Int} {u : Tok}
theorem IsL.at {o : Obj} {xs : List Value} (F : Fm h₀ L ns vs news h) (hm : (a, o) ∈ news) (i : IsL o xs) : Ls h a xs := let ⟨c, n, e⟩ := i; ⟨o, F.get hm, c, n, e⟩
theorem callTurn {f : Addr} {qual : Str} {body : List Stmt} {cdv : Value} {params nsF : List Str} {vals : List Value} {hid : List (Addr × Obj)} {Q : Value → Shared → Prop} (P : Value → List (Addr × Obj) → Prop) (D : Df w f qual body cs cdv params [] nsF gs bs)
    (W : Wd w mg mb mean h₀) (F : Fm h₀ L ns vs (hid ++ rest) h) (hroom : A.depth < recursionLimit) (hlen : vals.length = params.length)
    (hbody : ∀ hb L' h₁ tk₁, Wd w mg mb mean hb → (∀ b o, b ∉ hid.map (·.1) → h.get? b = some o → hb.get? b = some o) → Fm hb L' nsF (vals.map some ++ List.replicate (nsF.length - params.length) none) hid h₁ →
      wpAny (Mo w) (A.deeper (envOf qual cs L' f cdv)) (execs body (envOf qual cs L' f cdv)) (fun fl s' => ∃ h₂ hid' vs' more tk', s' = ⟨h₂, g, d, tk', os⟩ ∧ hid'.map (·.1) = hid.map (·.1) ∧ Fm hb L' nsF vs' (hid' ++ more) h₂ ∧ P (match fl with | .ret v => v | _ => .none) hid') (fun _ _ => False) ⟨h₁, g, d, tk₁, os⟩)
    (hq : ∀ h' v hid' tk', P v hid' → Fm h₀ L ns vs (hid' ++ rest) h' → Q v ⟨h', g, d, tk', os⟩) :
    wpAny (Mo w) A (call (.ref f) vals) Q E ⟨h, g, d, tk, os⟩ := by
  have nd := F.nd
  rw [List.map_append, List.nodup_append] at nd
  refine wpAny_call (callF (news := hid) D W F.keep (fun p hp => ⟨(F.led p (List.mem_append_left _ hp)).1, (F.led p (List.mem_append_left _ hp)).2.2⟩) nd.1 hroom hlen fun L' h₁ tk₁ W₀ kx G => ?_)
  refine wpAny_mono (hbody _ L' h₁ tk₁ W₀ (fun b o h1 e => hideAll_get _ e h1) G) (fun fl s' q => ?_) fun _ _ q => q.elim
  (wtm_at "pc")
  obtain ⟨h₂, hid', vs', more, tk', rfl, hm, G', p⟩ := q
  (wtm_at "pu")
  exact hq h₂ _ hid' tk' p (F.turnedL G' hm)
theorem r_setL {xs : List Value} {oS : Obj} {Q : Unit → Shared → Prop} (F : Fm h₀ L ns vs ((S, oS) :: news) h) (hS : IsL oS xs) (h0 : 0 ≤ i) (hfit : i < 2 ^ 63) (hn : i < xs.length)
    (hq : ∀ h' oS', Fm h₀ L ns vs ((S, oS') :: news) h' → IsL oS' (xs.set i.toNat v) → Q () ⟨h', g, d, tk, os⟩) : wpAny (Mo w) A (setItem (.ref S) (.int i u) v) Q E ⟨h, g, d, tk, os⟩ := by
  (wtm_at "pc")
  obtain ⟨c, n, e⟩ := hS
  (wtm_at "pu")
  refine wpAny_setItem_list (items := xs.toArray) ⟨oS, F.get (.head _), c, n, e⟩ h0 hfit (by simpa using hn) fun h' hl hs => ?_
  (wtm_at "pc")
  obtain ⟨o', e1, c1, n1, e2⟩ := hl
  (wtm_at "pu")
  refine hq h' o' (F.mutH hs.extBut e1) ⟨c1, n1, ?_⟩
  rw [e2]; simp
theorem r_stC {oC : Obj} {v₀ : Option Value} {Q : Unit → Shared → Prop} (en : En env L cs cl) (I : Fi cs ns cns gs bs) (hx : x ∈ cns) (hc : cl.lookup x = some c) (F : Fm h₀ L ns vs ((c, oC) :: news) h) (ho : oC.data = .cell v₀)
    (hq : ∀ h' oC', Fm h₀ L ns vs ((c, oC') :: news) h' → oC'.data = .cell (some v) → Q () ⟨h', g, d, tk, os⟩) : wpAny (Mo w) A (storeName env x v) Q E ⟨h, g, d, tk, os⟩ := by
  refine wpAny_storeName_cell (v₀ := v₀) (en.kind I) (en.of (I.cel x hx).1) (by rw [en.ce]; exact hc) ⟨oC, F.get (.head _), ho⟩ fun h' hv hs => ?_
  (wtm_at "pc")
  obtain ⟨o', e1, e2⟩ := hv
  (wtm_at "pu")
  exact hq h' o' (F.mutH hs.extBut e1) e2
theorem r_divF {Q : Value → Shared → Prop} (hj : j ≠ 0) (hs : j.natAbs < 1073741824) (hq : Q (.int (i.fdiv j) tk) ⟨h, g, d, tk + 1, os⟩) : wpAny (Mo w) A (binaryOp .FloorDiv (.int i t) (.int j u)) Q E ⟨h, g, d, tk, os⟩ :=
  PyProof.Rows.floordiv_int hj hq (.inl (PyProof.noPylong_small hs))
theorem r_itemB {ii : Int} {ui : Tok} {value slice : PySem.Expr} {Q : Value → Shared → Prop} (hl : l.length ≤ 100000) (h0 : 0 ≤ ii) (h1 : ii < l.length) (hq : Q (.int (l.getD ii.toNat 0).toNat tk) ⟨h, g, d, tk + 1, os⟩)
    (hs : subscripted slice false (.bytes l.toArray t) (.int ii ui) = operate [.bytes l.toArray t, .int ii ui] (getItem (.bytes l.toArray t) (.int ii ui)) := by with_unfolding_all rfl)
    (ht : ∀ r, letTemporaryGo value (.bytes l.toArray t) r = pure () := by intro _; with_unfolding_all rfl) : wpAny (Mo w) A (subscriptTail value slice (.bytes l.toArray t) (.int ii ui)) Q E ⟨h, g, d, tk, os⟩ :=
  bytes_item_K (by lia) h0 h1 rfl hq hs ht
theorem r_clear {xs : List Value} {Q : Value → Shared → Prop} (F : Fm h₀ L ns vs ((a, lsO xs n) :: news) h) (hz : xs.length ≤ 100000)
    (hq : ∀ h' n', Fm h₀ L ns vs ((a, lsO [] n') :: news) h' → Q .none ⟨h', g, d, tk, os⟩) : wpAny (Mo w) A (call (.builtin "list.clear") [.ref a]) Q E ⟨h, g, d, tk, os⟩ := by
  have e := F.get (.head _)
  refine call_meets PySem.F.slot_list_clear ⟨_, e, rfl⟩ PySem.F.entry_list_clear (PySem.F.args_list_clear_1 _) (PySem.AutoSeq1.list_clear_list_0 a xs.toArray n (by rw [sizeLine_eq]; simp; lia)) ⟨e, ?_⟩
  exact hq _ _ (F.mutH (Heap.SameBut.update ..).extBut (Heap.get?_update_self _ e rfl))
theorem BMeth.clear {ys : List Value} {k : String → Prop} (e : s.heap.get? a = some (lsO ys n)) (q : k "list.clear") : BMeth w A "clear" k (.ref a) s :=
  ⟨_, fun _ _ _ q => getMethod_builtin (T := "list") ⟨_, e, rfl⟩ PySem.F.plainAttrs_list PySem.F.slot_list_clear PySem.F.type_list_clear (fun a ha => by cases ha; exact ⟨_, e, rfl⟩) q, q⟩
end
section
variable {w : World} {A : Around} {E : Value → Shared → Prop} {h₀ hb h h' : Heap} {g : Array GenState} {d : Drawn} {t tk : Nat} {os : OsState} {L S CL a b c : Addr} {mg mb : Str → Option Value} {mean : ExcName → Option Value} {ns cns : List Str} {vs : List (Option Value)} {news rest : List (Addr × Obj)} {l m : List UInt8} {n : Nat}
  {env : Env} {pos : Pos} {s : Shared} {cs : Scope} {gs bs : List (Str × Value)} {cl : List (Str × Addr)} {x : Str} {v : Value} {i j : Int} {u : Tok} {xs : List Value} {ks : List Int}
theorem r_itemL {value slice : PySem.Expr} {k : Int} {z : Value} {Q : Value → Shared → Prop} (hl : Ls s.heap a xs) (h0 : 0 ≤ k) (hfit : k < 2 ^ 63) (hx : xs[k.toNat]? = some z) (hq : Q z s)
    (hs : subscripted slice false (.ref a) (.int k u) = operate [.ref a, .int k u] (getItem (.ref a) (.int k u)) := by with_unfolding_all rfl) : wpAny (Mo w) A (subscriptTail value slice (.ref a) (.int k u)) Q E s :=
  tail_any (Heap.IsList.typeIs (items := xs.toArray) hl) slot_list_getitem.lookup (wpAny_getItem_list (items := xs.toArray) hl h0 hfit (x := z) (by simpa using hx) hq) hs
theorem draw_c {oS : Obj} {at_ lim : Int} {ta tl : Tok} {Q : Value → Shared → Prop} (W : Wd w mg mb mean h₀) (R : Rm 3 A) (F : Fm h₀ L ns vs ((S, oS) :: rest) h) (hS : IsL oS [.ref CL, .int at_ ta]) (hC : Ls h CL xs) (hk : IntsAre xs ks) (h0 : 0 < ks.length) (h6 : ks.length ≤ 100) (ha : 0 ≤ at_) (hlim : 0 < lim)
    (hq : ∀ h' k tr oS' t' tk', 0 ≤ k → k < lim → IsL oS' [.ref CL, .int (at_ + 1) t'] → Fm h₀ L ns vs ((S, oS') :: rest) h' → Q (.int k tr) ⟨h', g, d, tk', os⟩) : wpAny (Mo w) A (call (.ref 580) [.ref S, .int lim tl]) Q E ⟨h, g, d, tk, os⟩ := by
  have hne : CL ≠ S := fun e => by
    (wtm_at "pc")
    obtain ⟨o, e1, _, n, e2⟩ := hC
    (wtm_at "pu")
    (wtm_at "pc")
    obtain ⟨_, n', e3⟩ := hS
    (wtm_at "pu")
    rw [e, F.get (.head _)] at e1; cases e1
    rw [e3] at e2
    have : xs = [.ref CL, .int at_ ta] := by injection e2 with e4; simpa using congrArg Array.toList e4.symm
    rw [this] at hk; cases hk
  refine callTurn (hid := [(S, oS)]) (fun v hid' => ∃ k tr oS' t', v = .int k tr ∧ 0 ≤ k ∧ k < lim ∧ hid' = [(S, oS')] ∧ IsL oS' [.ref CL, .int (at_ + 1) t']) (df__law_draw w) W F R.room rfl (fun hb L' h₁ tk₁ W kx F => ?_) fun h' v hid' tk' p F' => ?_
  · have hC : Ls hb CL xs := by
      (wtm_at "pc")
      obtain ⟨o, e1, e2⟩ := hC
      (wtm_at "pu")
      exact ⟨o, kx _ _ (by simpa using hne) e1, e2⟩
    have Y := (df__law_draw w).fi
    (wtm_at "f0")
    refine wpAny_execs_cons ?_
    repeat (wtm_at "ev")
    refine r_itemL (hS.at F (.head _)) (by decide) (by decide) rfl ?_
    repeat (wtm_at "ev")
    refine r_itemL (hS.at F (.head _)) (by decide) (by decide) rfl ?_
    repeat (wtm_at "ev")
    refine wpAny_Assign_Subscript ?_
    repeat (wtm_at "ev")
    refine r_setL F hS (by decide) (by decide) (by simp) fun h oS' F hS' => ?_
    repeat (wtm_at "ev")
    refine r_lenL (hC.ext F.keep) (by rw [hk.length]; lia) ?_
    repeat (wtm_at "ev")
    have hlx : xs.length = ks.length := hk.length
    refine r_mod (by lia) ?_
    have i0 : 0 ≤ at_.fmod (xs.length : Int) := Int.fmod_nonneg_of_pos _ (by lia)
    have i1 : at_.fmod (xs.length : Int) < (xs.length : Int) := Int.fmod_lt_of_pos _ (by lia)
    have i2 : (at_.fmod (xs.length : Int)).toNat < xs.length := by lia
    (wtm_at "pc")
    obtain ⟨kk, tkk, ek, ez⟩ := ints_at hk (List.getElem?_eq_getElem i2)
    (wtm_at "pu")
    refine r_itemL (hC.ext F.keep) i0 (by lia) (by rw [List.getElem?_eq_getElem i2, ez]) ?_
    repeat (wtm_at "ev")
    refine r_lenL (hC.ext F.keep) (by rw [hk.length]; lia) ?_
    repeat (wtm_at "ev")
    refine r_divF (by lia) (by lia) ?_
    repeat (wtm_at "ev")
    refine r_mod (by lia) ?_
    repeat (wtm_at "ev")
    exact ⟨_, [(S, oS')], _, [], _, rfl, rfl, F, _, _, oS', _, rfl, Int.fmod_nonneg_of_pos _ hlim, Int.fmod_lt_of_pos _ hlim, rfl, hS'⟩
  · (wtm_at "pc")
    obtain ⟨k, tr, oS', t', rfl, k0, k1, rfl, hS'⟩ := p
    (wtm_at "pu")
    exact hq _ _ _ _ _ _ k0 k1 hS' F'
end
section
variable {w : World} {A : Around} {E : Value → Shared → Prop} {h₀ hb h h' : Heap} {g : Array GenState} {d : Drawn} {t tk : Nat} {os : OsState} {L S CL a b c : Addr} {mg mb : Str → Option Value} {mean : ExcName → Option Value} {ns cns : List Str} {vs : List (Option Value)} {news rest : List (Addr × Obj)} {l m : List UInt8} {n : Nat}
  {env : Env} {pos : Pos} {s : Shared} {cs : Scope} {gs bs : List (Str × Value)} {cl : List (Str × Addr)} {x : Str} {v : Value} {i j : Int} {u : Tok} {xs : List Value} {ks : List Int}
theorem r_upto {value slice : PySem.Expr} {y : Int} {ty : Tok} {Q : Value → Shared → Prop} (F : Fm h₀ L ns vs news h) (hl : Ls h a xs) (hk : IntsAre xs ks) (hz : xs.length ≤ 1000) (hy : 0 ≤ y)
    (hq : ∀ D ws h', Fm h₀ L ns vs ((D, lsO ws 0) :: news) h' → IntsAre ws (ks.take y.toNat) → Q (.ref D) ⟨h', g, d, tk, os⟩)
    (hs : subscripted slice false (.ref a) (.ref h.objs.size) = operate [.ref h.objs.size, .ref a] (getItem (.ref a) (.ref h.objs.size)) := by with_unfolding_all rfl) (ht : ∀ r, letTemporaryGo value (.ref a) r = pure () := by intro _; with_unfolding_all rfl) :
    wpAny (Mo w) A (subscriptTail value slice (.ref a) (.ref h.objs.size)) Q E ⟨h.push { cls := .type "slice", data := .fields #[.none, .int y ty, .none] }, g, d, tk, os⟩ := by
  (wtm_at "pc")
  obtain ⟨m, f, l⟩ := F.fr
  (wtm_at "pu")
  refine kmk_slice_ints (s := ⟨h, g, d, tk, os⟩) (vs := xs) f F.led hl .none (.int y ty) hk (kmk_upto hk hy) rfl (fun D ws h' f' N' l1 hw _ _ => hq D ws h' ⟨⟨m, f', l⟩, N', ?_⟩ hw) hs ht (by rw [sizeLine_eq]; simp; lia)
  rw [List.map_cons, List.nodup_cons]
  refine ⟨fun q => ?_, F.nd⟩
  (wtm_at "pc")
  obtain ⟨z, hz, e⟩ := List.mem_map.mp q
  (wtm_at "pu")
  have := l1 z hz
  rw [e] at this; exact Nat.lt_irrefl _ this
theorem source_c {hB : Heap} {l0 : Addr} {Q : Value → Shared → Prop} (W : Wd w mg mb mean hB) (R : Rm 3 A) (hh : A.handled = none) (hl : Ls hB l0 xs) (hk : IntsAre xs ks) (h6 : ks.length ≤ 63)
    (hq : ∀ h' S oS CL oC t xs' ks' tk', Ext hB h' → (∀ p ∈ [(S, oS), (CL, oC)], h'.get? p.1 = some p.2 ∧ hB.get? p.1 = none) → S ≠ CL → IsL oS [.ref CL, .int 0 t] → IsL oC xs' → IntsAre xs' ks' → 0 < ks'.length → ks'.length ≤ 60 → Q (.ref S) ⟨h', g, d, tk', os⟩) :
    wpAny (Mo w) A (call (.ref 585) [.ref l0]) Q E ⟨hB, g, d, tk, os⟩ := by
  refine callP (df__law_source w) W R.room rfl fun L h₁ tk₁ F => ?_
  have Y := (df__law_source w).fi
  (wtm_at "f0")
  refine wpAny_execs_cons ?_
  refine r_acomp _ ?_ (by rfl) (by rfl) (by rfl) (by decide +kernel)
  repeat (wtm_at "ev")
  refine r_upto (g := g) (d := d) (os := os) F (hl.ext F.keep) hk (by rw [hk.length]; lia) (by decide) fun D ws h F hw => ?_
  refine r_iterL F (Ls.of (F.get (.head _))) fun I h3 oI F3 st3 neI k3 => ?_
  clear F
  have hwl : ws.length ≤ 60 := by rw [hw.length]; simp; lia
  refine comp_finA (nsC := ["cell"]) (cnsC := []) (gsC := []) (bsC := [("int", .type "int")]) 0 1 En.fn Y rfl rfl (Fi.of (by kernel_rfl)) (by decide +kernel) rfl (Walks.list (by exact hh) I D (Ne.symm neI) ws.toArray) st_list
    (fun i ys news => news = [(D, lsO ws 0)] ∧ IntsAre ys ((ks.take 60).take i)) (fun b hb => ?_) rfl (by rw [sizeLine_eq]; simp; lia) W F3 st3 ⟨rfl, .nil⟩ ?_ ?_
  · rcases List.mem_cons.mp hb with rfl | q
    · exact .inl rfl
    · obtain rfl := List.mem_singleton.mp q
      exact .inr (.inr ⟨_, fun i ys news j => by rw [j.1]; exact .head _⟩)
  · intro hb' C D' i v ys news₁ h tk oI ep Y W keep hi pv hJ0 F en
    (wtm_at "pc")
    obtain ⟨rfl, b⟩ := hJ0
    (wtm_at "pu")
    (wtm_at "fs")
    (wtm_at "pc")
    obtain ⟨k, tv, ek, rfl⟩ := ints_at hw (by simpa using pv)
    (wtm_at "pu")
    refine wpAny_pure ?_
    (try unfold Qcut)
    rw [if_pos rfl]
    repeat (wtm_at "ev")
    refine call_int_int ?_
    refine ⟨_, _, _, _, rfl, F, rfl, ?_⟩
    rw [List.take_add_one, show (ks.take 60)[i]? = some k from ek]
    exact b.append (.cons _ _ .nil)
  · intro D2 ys news₁ h tk ep hJ0 F
    (wtm_at "pc")
    obtain ⟨rfl, b⟩ := hJ0
    (wtm_at "pu")
    have hlen : (ks.take 60).take ws.toArray.size = ks.take 60 := by
      rw [List.size_toArray, hw.length]; exact List.take_length
    rw [hlen] at b
    have hyl : ys.length ≤ 60 := by rw [b.length]; simp; lia
    (wtm_at "fs")
    repeat (wtm_at "ev")
    refine wpAny_truthy_list (items := ys.toArray) ⟨_, F.get (.head _), rfl, _, rfl⟩ (by simp; lia) ?_
    refine r_if (fun c => ?_) fun c => ?_
    · have hy : ys ≠ [] := by rintro rfl; simp at c
      have hyp : 0 < ys.length := List.length_pos_iff.mpr hy
      repeat (wtm_at "ev")
      obtain ⟨t', F⟩ : ∃ t', Fm hB L _ _ [(a, lsO [Value.ref D2, .int 0 t'] 0), (D2, lsO ys ep), (D, lsO ws 0)] h := ⟨_, F⟩
      refine hq h a (lsO [Value.ref D2, .int 0 t'] 0) D2 (lsO ys ep) t' ys _ _ F.keep (fun p hp => ?_) ?_ (IsL.of _ _) (IsL.of _ _) b (by rw [← b.length]; exact hyp) (by simp; lia)
      · rcases List.mem_cons.mp hp with rfl | hp
        · exact ⟨F.get (.head _), (F.led _ (.head _)).2.2⟩
        · obtain rfl := List.mem_singleton.mp hp
          exact ⟨F.get (.tail _ (.head _)), (F.led _ (.tail _ (.head _))).2.2⟩
      · have nd := F.nd
        rw [List.map_cons, List.map_cons, List.nodup_cons] at nd
        exact fun e => nd.1 (by rw [e]; exact .head _)
    · repeat (wtm_at "ev")
      (wtm_at "pc")
      obtain ⟨t', Z, tz, F⟩ : ∃ t' Z tz, Fm hB L _ _ [(a, lsO [Value.ref Z, .int 0 t'] 0), (Z, lsO [.int 0 tz] 0), (D2, lsO ys ep), (D, lsO ws 0)] h := ⟨_, _, _, F⟩
      (wtm_at "pu")
      refine hq h a (lsO [Value.ref Z, .int 0 t'] 0) Z (lsO [.int 0 tz] 0) t' [.int 0 tz] [0] _ F.keep (fun p hp => ?_) ?_ (IsL.of _ _) (IsL.of _ _) (.cons 0 _ .nil) (by decide) (by decide)
      · rcases List.mem_cons.mp hp with rfl | hp
        · exact ⟨F.get (.head _), (F.led _ (.head _)).2.2⟩
        · obtain rfl := List.mem_singleton.mp hp
          exact ⟨F.get (.tail _ (.head _)), (F.led _ (.tail _ (.head _))).2.2⟩
      · have nd := F.nd
        rw [List.map_cons, List.map_cons, List.nodup_cons] at nd
        exact fun e => nd.1 (by rw [e]; exact .head _)
end

noncomputable abbrev lawNs : List Str := ["script", "tag", "read", "due", "data", "place", "number", "size", "spot", "is_told", "inside"]
noncomputable abbrev lawCs : List Str := ["source", "tables", "tags", "begins", "turned", "kept", "handed"]
noncomputable abbrev lawGs : List (Str × Value) := [("_law_source", .ref 585), ("_law_draw", .ref 580), ("write_sfnt", .ref 423), ("check_file", .ref 573)]
noncomputable abbrev lawBs : List (Str × Value) := [("len", .builtin "len"), ("bytes", .type "bytes"), ("range", .type "range"), ("sorted", .builtin "sorted"), ("dict", .type "dict")]
theorem df_law (w : World) : Df w 590 "law" (fnB (st 72)) (fnS (st 72)) (.ref 589) ["script"] lawCs lawNs lawGs lawBs :=
  Df.of none "law" (fnA (st 72)) .none (.str "law_pb0201_01" 955) (by kernel_rfl) (fun s vals X hl => vs1 (P := fun vs => BindsTo s _ ⟨vs, []⟩ (List.zip _ vs)) (fun v0 => BindsTo.of_eq rfl) vals hl) (by kernel_rfl) (Fi.of (by kernel_rfl)) ((fun h => by cases h)) ((fun h => by cases h))
noncomputable abbrev envLaw (L : Addr) : Env := envOfC "law" (fnS (st 72)) L 590 (.ref 589)
theorem lk (L : Addr) : List.lookup ("source" : Str) (cellsFrom (L + 1) (fnS (st 72)).names []) = some (L + 1) ∧ List.lookup ("tables" : Str) (cellsFrom (L + 1) (fnS (st 72)).names []) = some (L + 2) ∧ List.lookup ("tags" : Str) (cellsFrom (L + 1) (fnS (st 72)).names []) = some (L + 3) ∧ List.lookup ("begins" : Str) (cellsFrom (L + 1) (fnS (st 72)).names []) = some (L + 4) ∧ List.lookup ("turned" : Str) (cellsFrom (L + 1) (fnS (st 72)).names []) = some (L + 5) ∧ List.lookup ("kept" : Str) (cellsFrom (L + 1) (fnS (st 72)).names []) = some (L + 6) ∧ List.lookup ("handed" : Str) (cellsFrom (L + 1) (fnS (st 72)).names []) = some (L + 7) := by
  refine ⟨?_, ?_, ?_, ?_, ?_, ?_, ?_⟩ <;> kernel_rfl
noncomputable def lawSt (k : Nat) : Stmt := (fnB (st 72)).getD k (.Pass ⟨0, 0, 0, 0⟩)
theorem lawBody : fnB (st 72) = [lawSt 0, lawSt 1, lawSt 2, lawSt 3, lawSt 4, lawSt 5, lawSt 6, lawSt 7, lawSt 8, lawSt 9, lawSt 10, lawSt 11, lawSt 12, lawSt 13, lawSt 14, lawSt 15, lawSt 16, lawSt 17, lawSt 18, lawSt 19, lawSt 20, lawSt 21, lawSt 22] := rfl
noncomputable abbrev tagL : List Str := ["GDEF", "abcd", "glyf", "head", "name", "zzzz"]
structure Grow (i : Nat) (ps : List Tb) : Prop where
  sub : (ps.map (·.1)).Sublist (tagL.take i)
  len : ∀ p ∈ ps, p.2.length ≤ 16
  one : 5 ≤ i → 1 ≤ ps.length
  two : 6 ≤ i → 2 ≤ ps.length
section
variable {w : World} {A : Around} {E : Value → Shared → Prop} {h₀ hb h h' : Heap} {g : Array GenState} {d : Drawn} {t tk : Nat} {os : OsState} {L S T CL a b c : Addr} {mg mb : Str → Option Value} {mean : ExcName → Option Value} {ns cns : List Str} {vs : List (Option Value)} {news rest : List (Addr × Obj)} {l m : List UInt8} {n : Nat}
  {env : Env} {pos : Pos} {s : Shared} {x : Str} {v : Value} {i j : Int} {u : Tok} {xs : List Value} {ks : List Int} {o1 o2 oS oT oC : Obj}
theorem law0 {l0 : Addr} {vl : List (Option Value)} {K : Shared → Prop} (W : Wd w mg mb mean h₀) (R : Rm 4 A) (hh : A.handled = none) (F : Fm h₀ L lawNs (some (.ref l0) :: vl) ((L + 1, o1) :: rest) h) (ho : o1.data = .cell none) (hl : Ls h₀ l0 xs) (hk : IntsAre xs ks) (h6 : ks.length ≤ 63)
    (hq : ∀ h' o1 S oS CL oC t xs' ks' tk', Fm h₀ L lawNs (some (.ref l0) :: vl) ((L + 1, o1) :: (S, oS) :: (CL, oC) :: rest) h' → o1.data = .cell (some (.ref S)) → IsL oS [.ref CL, .int 0 t] → IsL oC xs' → IntsAre xs' ks' → 0 < ks'.length → ks'.length ≤ 60 → K ⟨h', g, d, tk', os⟩) :
    wpAny (Mo w) A (exec (lawSt 0) (envLaw L)) (fun f s' => f = .next ∧ K s') (fun _ _ => False) ⟨h, g, d, tk, os⟩ := by
  have Y := (df_law w).fi
  refine wpAny_Assign_Name ?_
  repeat (wtm_at "ev")
  refine source_c (W.keeps F.keep) R.le hh (hl.ext F.keep) hk h6 fun h' S oS CL oC t xs' ks' tk' k hn hne h1 h2 h3 h4 h5 => ?_
  have F := F.fresh k hn (by simp [hne])
  have F := F.perm (news' := (L + 1, o1) :: (S, oS) :: (CL, oC) :: rest) (List.perm_middle (l₁ := [(S, oS), (CL, oC)]))
  refine r_stC (c := L + 1) En.fnC Y (by wtm_at "mem") (by kernel_rfl) F ho fun h' o1' F ho' => ?_
  exact ⟨rfl, hq _ _ _ _ _ _ _ _ _ _ F ho' h1 h2 h3 h4 h5⟩
theorem law1 {vl : List (Option Value)} {K : Shared → Prop} (W : Wd w mg mb mean h₀) (F : Fm h₀ L lawNs vl ((L + 2, o2) :: rest) h) (ho : o2.data = .cell none)
    (hq : ∀ h' o2 T oT tk', Fm h₀ L lawNs vl ((L + 2, o2) :: (T, oT) :: rest) h' → o2.data = .cell (some (.ref T)) → oT.IsDictOf (kS w) [] → (T == sysModules) = false → K ⟨h', g, d, tk', os⟩) :
    wpAny (Mo w) A (exec (lawSt 1) (envLaw L)) (fun f s' => f = .next ∧ K s') (fun _ _ => False) ⟨h, g, d, tk, os⟩ := by
  have Y := (df_law w).fi
  refine wpAny_Assign_Name ?_
  refine r_newD W F fun T oT h' F hT lo => ?_
  have F := F.perm (news' := (L + 2, o2) :: (T, oT) :: rest) (List.perm_middle (l₁ := [(T, oT)]))
  refine r_stC (c := L + 2) En.fnC Y (by wtm_at "mem") (by kernel_rfl) F ho fun h' o1' F ho' => ?_
  exact ⟨rfl, hq _ _ _ _ _ F ho' hT lo⟩
end
section
variable {w : World} {A : Around} {E : Value → Shared → Prop} {h₀ hb h h' : Heap} {g : Array GenState} {d : Drawn} {t tk : Nat} {os : OsState} {L S T CL a b c : Addr} {mg mb : Str → Option Value} {mean : ExcName → Option Value} {ns cns : List Str} {vs : List (Option Value)} {news rest : List (Addr × Obj)} {l m : List UInt8} {n : Nat}
  {env : Env} {pos : Pos} {s : Shared} {x : Str} {v : Value} {i j : Int} {u : Tok} {xs : List Value} {ks : List Int} {o1 o2 oS oT oC : Obj}
theorem tagL_nodup : tagL.Nodup := by decide +kernel
theorem Grow.new {i : Nat} {ps : List Tb} {k : Str} (G : Grow i ps) (h : tagL[i]? = some k) : k ∉ ps.map (·.1) := fun q => by
  have := G.sub.subset q
  (wtm_at "pc")
  obtain ⟨j, hj, e⟩ := List.getElem_of_mem this
  (wtm_at "pu")
  rw [List.length_take] at hj
  have e2 : tagL[j]? = some k := by rw [← e]; rw [List.getElem_take]; exact List.getElem?_eq_getElem _
  have := getElem?_inj_of_nodup tagL_nodup e2 h
  lia
theorem Grow.add {i : Nat} {ps : List Tb} {k : Str} {l : List UInt8} (G : Grow i ps) (h : tagL[i]? = some k) (hl : l.length ≤ 16) : Grow (i + 1) (ps ++ [(k, l)]) := by
  refine ⟨?_, fun p hp => ?_, fun _ => by simp, fun q => ?_⟩
  · rw [List.map_append, List.take_add_one, h]
    exact G.sub.append (List.Sublist.refl _)
  · rcases List.mem_append.mp hp with q | q
    · exact G.len p q
    · obtain rfl := List.mem_singleton.mp q; exact hl
  · have := G.one (by lia)
    simp; lia
theorem Grow.skip {i : Nat} {ps : List Tb} (G : Grow i ps) (h1 : 5 ≤ i + 1 → 1 ≤ ps.length) (h2 : 6 ≤ i + 1 → 2 ≤ ps.length) : Grow (i + 1) ps :=
  ⟨G.sub.trans (List.take_sublist_take_left (by lia)), G.len, h1, h2⟩
theorem Grow.zero : Grow 0 [] := ⟨by simp, fun _ h => (nomatch h), fun h => absurd h (by decide), fun h => absurd h (by decide)⟩
theorem strs6 {a b c d e f : Str} {t1 t2 t3 t4 t5 t6 : Tok} : Strs [.str a t1, .str b t2, .str c t3, .str d t4, .str e t5, .str f t6] [a, b, c, d, e, f] :=
  Strs.nil.snoc.snoc.snoc.snoc.snoc.snoc
noncomputable def LI2 (w : World) (S T CL a l0 : Addr) (tv : List Value) (vl : List (Option Value)) (rest : List (Addr × Obj)) (i : Nat) (vs : List (Option Value)) (news : List (Addr × Obj)) : Prop :=
  ∃ c oS t at_ oT kvs ps, vs = some (.ref l0) :: c :: vl ∧ news = (S, oS) :: (T, oT) :: (a, tpO tv) :: rest ∧ IsL oS [.ref CL, .int at_ t] ∧ 0 ≤ at_ ∧ oT.IsDictOf (kS w) kvs ∧ Bys kvs ps ∧ Grow i ps
theorem LI2.mk {w : World} {S T CL a l0 : Addr} {tv : List Value} {vl : List (Option Value)} {rest : List (Addr × Obj)} {i : Nat} {c : Option Value} {oS oT : Obj} {t : Tok} {at_ : Int} {kvs : List (Str × Value)} {ps : List Tb} (h1 : IsL oS [.ref CL, .int at_ t]) (h2 : 0 ≤ at_) (h3 : oT.IsDictOf (kS w) kvs) (h4 : Bys kvs ps) (h5 : Grow i ps) :
    LI2 w S T CL a l0 tv vl rest i (some (.ref l0) :: c :: vl) ((S, oS) :: (T, oT) :: (a, tpO tv) :: rest) := ⟨_, _, _, _, _, _, _, rfl, rfl, h1, h2, h3, h4, h5⟩
theorem law2 {l0 : Addr} {vl : List (Option Value)} {K : Shared → Prop} (hvl : vl.length = 9) (W : Wd w mg mb mean h₀) (R : Rm 6 A) (hh : A.handled = none) (F : Fm h₀ L lawNs (some (.ref l0) :: none :: vl) ((S, oS) :: (T, oT) :: rest) h)
    (m1 : (L + 1, o1) ∈ rest) (c1 : o1.data = .cell (some (.ref S))) (m2 : (L + 2, o2) ∈ rest) (c2 : o2.data = .cell (some (.ref T))) (mC : (CL, oC) ∈ rest) (hC : IsL oC xs) (hk : IntsAre xs ks) (k0 : 0 < ks.length) (k6 : ks.length ≤ 100)
    (hS : IsL oS [.ref CL, .int 0 t]) (hT : oT.IsDictOf (kS w) []) (lo : (T == sysModules) = false)
    (hq : ∀ h' c oS t at_ oT kvs ps tk', Fm h₀ L lawNs (some (.ref l0) :: c :: vl) ((S, oS) :: (T, oT) :: rest) h' → IsL oS [.ref CL, .int at_ t] → 0 ≤ at_ → oT.IsDictOf (kS w) kvs → Bys kvs ps → Grow 6 ps → K ⟨h', g, d, tk', os⟩) :
    wpAny (Mo w) A (exec (lawSt 2) (envLaw L)) (fun f s' => f = .next ∧ K s') (fun _ _ => False) ⟨h, g, d, tk, os⟩ := by
  have Y := (df_law w).fi
  (wtm_at "pc")
  obtain ⟨q1, q2, q3, q4, q5, q6, q7⟩ := lk L
  (wtm_at "pu")
  refine wpAny_For ?_
  repeat (wtm_at "ev")
  clear F
  (wtm_at "pc")
  obtain ⟨tv, htv, F⟩ : ∃ tv, Strs tv tagL ∧ Fm h₀ L lawNs (some (.ref l0) :: none :: vl) ((a, tpO tv) :: (S, oS) :: (T, oT) :: rest) h := ⟨_, strs6, FT⟩
  (wtm_at "pu")
  clear FT
  have Ia := F.get (.head _)
  refine r_iterT F (Tp.of Ia) fun I h3 oI F3 st3 neI k3 => ?_
  clear F
  have F := F3.perm (news' := (I, oI) :: (S, oS) :: (T, oT) :: (a, tpO tv) :: rest) (by wtm_at "pm")
  clear F3
  have htl : tv.length = 6 := htv.len
  refine for_at 1 En.fnC Y (Walks.tuple hh I a (Ne.symm neI) tv.toArray) st_tuple
    (LI2 w S T CL a l0 tv vl rest)
    (fun b hb => ?_) rfl F st3 (LI2.mk hS (Int.le_refl _) hT .nil Grow.zero) ?_ ?_
  · rcases List.mem_cons.mp hb with rfl | q
    · exact .inl rfl
    · obtain rfl := List.mem_singleton.mp q
      refine .inr (.inr ⟨tpO tv, ?_⟩)
      intro i vs news hJ0
      (wtm_at "pc")
      obtain ⟨_, _, _, _, _, _, _, rfl, rfl, _⟩ := hJ0
      (wtm_at "pu")
      exact .tail _ (.tail _ (.head _))
  · intro i v vs₁ news₁ h tk oI hi pv hJ0 F
    (wtm_at "pc")
    obtain ⟨c, oS, t, at_, oT, kvs, ps, rfl, rfl, hS, ha, hT, by_, G⟩ := hJ0
    (wtm_at "pu")
    dsimp only [List.set] at F
    have hi6 : i < 6 := by rw [← htl]; simpa using hi
    have e6 : tagL.length = 6 := rfl
    obtain ⟨kk, ekk⟩ : ∃ kk, tagL[i]? = some kk := ⟨tagL[i]'(by lia), List.getElem?_eq_getElem _⟩
    obtain ⟨tt, rfl⟩ := htv.at_ i v kk (by simpa using pv) ekk
    have F := F.perm (news' := (S, oS) :: (I, oI) :: (T, oT) :: (a, tpO tv) :: rest) (.swap ..)
    refine wpAny_execs_cons (wpAny_If ?_)
    refine wpAny_mono (Q := fun b s' => ∃ oS' t' h' tk', s' = ⟨h', g, d, tk', os⟩ ∧ Fm h₀ L lawNs (some (.ref l0) :: some (.str kk tt) :: vl) ((S, oS') :: (I, oI) :: (T, oT) :: (a, tpO tv) :: rest) h' ∧ IsL oS' [.ref CL, .int (at_ + 1) t'] ∧ (b = false → Grow (i + 1) ps)) (E := fun _ _ => False) ?_ (fun b s' q => ?_) fun _ _ x => x
    · (wtm_at "ct")
      have hlen := by_.length
      have hpl : ps.length ≤ 6 := by
        have := G.sub.length_le
        rw [List.length_map, List.length_take] at this; lia
      repeat (wtm_at "ev")
      refine draw_c W R.le F hS (hC.at F (by wtm_at "mem")) hk k0 k6 ha (lim := 3) (by decide) fun h' kd tr oS' t' tk' d0 d1 hS' F => ?_
      repeat (wtm_at "ev")
      refine r_if (fun c => ?_) fun c => ?_
      · exact ⟨_, _, _, _, rfl, F, hS', fun h => nomatch h⟩
      repeat (wtm_at "ev")
      refine r_lenD (Dk.led F (by wtm_at "mem") hT lo) (by lia) ?_
      repeat (wtm_at "ev")
      have e4 : i = 4 → kk = "name" := by rintro rfl; cases ekk; rfl
      have e5 : i = 5 → kk = "zzzz" := by rintro rfl; cases ekk; rfl
      refine r_if (fun cA => ?_) fun cA => ?_
      · repeat (wtm_at "ev")
        refine r_if (fun cB => ?_) fun cB => ?_
        · repeat (wtm_at "ev")
          exact ⟨_, _, _, _, rfl, F, hS', fun h => nomatch h⟩
        have cB := of_decide_eq_false (Bool.eq_false_iff.mpr cB)
        repeat (wtm_at "ev")
        refine r_lenD (Dk.led F (by wtm_at "mem") hT lo) (by lia) ?_
        repeat (wtm_at "ev")
        refine r_if (fun cC => ?_) fun cC => ?_
        · repeat (wtm_at "ev")
          refine r_if (fun cD => ?_) fun cD => ?_
          · repeat (wtm_at "ev")
            exact ⟨_, _, _, _, rfl, F, hS', fun h => nomatch h⟩
          · have cD := of_decide_eq_false (Bool.eq_false_iff.mpr cD)
            repeat (wtm_at "ev")
            exact ⟨_, _, _, _, rfl, F, hS', fun _ => G.skip (fun q => G.one (by have : i ≠ 4 := fun z => cB (e4 z); lia)) (fun q => absurd (e5 (by lia)) cD)⟩
        · have cC : ¬ (kvs.length : Int) < 2 := of_decide_eq_false (Bool.eq_false_iff.mpr cC)
          repeat (wtm_at "ev")
          exact ⟨_, _, _, _, rfl, F, hS', fun _ => G.skip (fun q => by lia) (fun q => by lia)⟩
      · have cA : ¬ (kvs.length : Int) < 1 := of_decide_eq_false (Bool.eq_false_iff.mpr cA)
        repeat (wtm_at "ev")
        refine r_lenD (Dk.led F (by wtm_at "mem") hT lo) (by lia) ?_
        repeat (wtm_at "ev")
        refine r_if (fun cC => ?_) fun cC => ?_
        · repeat (wtm_at "ev")
          refine r_if (fun cD => ?_) fun cD => ?_
          · repeat (wtm_at "ev")
            exact ⟨_, _, _, _, rfl, F, hS', fun h => nomatch h⟩
          · have cD := of_decide_eq_false (Bool.eq_false_iff.mpr cD)
            repeat (wtm_at "ev")
            exact ⟨_, _, _, _, rfl, F, hS', fun _ => G.skip (fun q => by lia) (fun q => absurd (e5 (by lia)) cD)⟩
        · have cC : ¬ (kvs.length : Int) < 2 := of_decide_eq_false (Bool.eq_false_iff.mpr cC)
          repeat (wtm_at "ev")
          exact ⟨_, _, _, _, rfl, F, hS', fun _ => G.skip (fun q => by lia) (fun q => by lia)⟩
    (wtm_at "pc")
    obtain ⟨oS', t', h', tk', rfl, F, hS', hb⟩ := q
    (wtm_at "pu")
    cases b with
    | false =>
      refine r_ifF Bool.false_ne_true ?_
      repeat (wtm_at "ev")
      exact ⟨rfl, _, _, _, _, rfl, F.perm (news' := (I, oI) :: (S, oS') :: (T, oT) :: (a, tpO tv) :: rest) (.swap ..), LI2.mk hS' (by lia) hT by_ (hb rfl)⟩
    | true =>
      refine r_ifT rfl ?_
      clear hb hS
      refine wpAny_execs_cons (wpAny_Assign_Subscript ?_)
      repeat (wtm_at "ev")
      refine draw_c (lim := 17) W R.le F hS' (hC.at F (by wtm_at "mem")) hk k0 k6 (by lia) (by decide) fun h' kn tr oS t2 tk' d0 d1 hS F => ?_
      repeat (wtm_at "ev")
      refine r_range1 F fun r h' t₁ t₃ tk hr F k1 => ?_
      refine r_iterR kn.toNat F hr (range_small (by lia) (by lia) (by decide)) (by rw [rsz_pos (by decide)]; split <;> lia) fun I2 h3 oI2 F3 st3 _ => ?_
      clear F
      have hF1 : List.lookup ("source" : Str) [(("source" : Str), L + 1)] = some (L + 1) := by kernel_rfl
      refine comp_fin0 (nsC := ["turn"]) (cnsC := ["source"]) (gsC := [("_law_draw", .ref 580)]) (bsC := []) 0 En.fnC rfl (Fi.of (by kernel_rfl)) (by decide +kernel) rfl (Walks.range hh I2 _ _ _) st_range
        (fun i2 ys news => ∃ oS t a2 js, news = (S, oS) :: (I, oI) :: (T, oT) :: (a, tpO tv) :: rest ∧ IsL oS [.ref CL, .int a2 t] ∧ 0 ≤ a2 ∧ IntsAre ys js ∧ js.length = i2 ∧ ∀ k ∈ js, 0 ≤ k ∧ k < 256) (fun b hb => .inl (List.mem_singleton.mp hb)) rfl (by rw [sizeLine_eq]; lia) W F3 st3
        ⟨oS, t2, _, [], rfl, hS, by lia, .nil, rfl, fun _ h => nomatch h⟩ ?_ ?_
      · intro hb' C D' i2 v2 ys news₁ h tk oI2 ep Y W keep hi2 pv2 hJ0 F en
        (wtm_at "pc")
        obtain ⟨oS, t3, a2, js, rfl, hS, ha2, hjs, hjl, hjr⟩ := hJ0
        (wtm_at "pu")
        (wtm_at "fs")
        repeat (wtm_at "ev")
        have F := F.perm (news' := (S, oS) :: (I2, oI2) :: (D', lsO ys ep) :: (I, oI) :: (T, oT) :: (a, tpO tv) :: rest) (List.perm_middle (l₁ := [(I2, oI2), (D', lsO ys ep)]))
        refine draw_c (lim := 256) W R.le F hS (hC.at F (by wtm_at "mem")) hk k0 k6 (by lia) (by decide) fun h' kv tr oS4 t4 tk' v0 v1 hS4 F => ?_
        refine ⟨_, _, _, _, rfl, F.perm (List.perm_middle (l₁ := [(I2, oI2), (D', lsO ys ep)])).symm, oS4, t4, _, js ++ [kv], rfl, hS4, by lia, hjs.append (.cons _ _ .nil), by simp [hjl], fun k hk' => ?_⟩
        rcases List.mem_append.mp hk' with q | q
        · exact hjr k q
        · obtain rfl := List.mem_singleton.mp q; exact ⟨v0, v1⟩
      · intro D' ys news₁ h tk ep hJ0 F
        (wtm_at "pc")
        obtain ⟨oS, t3, a2, js, rfl, hS, ha2, hjs, hjl, hjr⟩ := hJ0
        (wtm_at "pu")
        repeat (wtm_at "ev")
        refine call_bytes_ints (l := D') ⟨_, F.get (.head _), rfl, _, rfl⟩ hjs hjr (by rw [hjs.length, sizeLine_eq]; lia) hh fun h' tb k kx => ?_
        have F := F.ext kx
        obtain ⟨bl, hbl⟩ : ∃ bl : List UInt8, bl = js.map fun n : Int => n.toNat.toUInt8 := ⟨_, rfl⟩
        have hbl2 : bl.length ≤ 16 := by rw [hbl, List.length_map, hjl]; lia
        rw [show byteArr js = bl.toArray by rw [hbl]; rfl]
        repeat (wtm_at "ev")
        have F := (F.drop (List.sublist_cons_self _ _)).perm (news' := (T, oT) :: (S, oS) :: (I, oI) :: (a, tpO tv) :: rest) (by wtm_at "pm")
        refine r_setD F hT (by rw [by_.length]; have := G.sub.length_le; rw [List.length_map, List.length_take] at this; lia) (by rw [by_.keys]; exact G.new ekk) fun h' oT' F hT' => ?_
        repeat (wtm_at "ev")
        refine ⟨rfl, _, _, _, _, rfl, F.perm (news' := (I, oI) :: (S, oS) :: (T, oT') :: (a, tpO tv) :: rest) (by wtm_at "pm"), LI2.mk hS ha2 hT' by_.snoc (G.add ekk hbl2)⟩
  · intro vs₁ news₁ h tk hJ0 F
    (wtm_at "pc")
    obtain ⟨c, oS, t, at_, oT, kvs, ps, rfl, rfl, hS, ha, hT, by_, G⟩ := hJ0
    (wtm_at "pu")
    have G6 : Grow 6 ps := by
      have : tv.toArray.size = 6 := by simpa using htl
      rw [this] at G; exact G
    have F := F.perm (news' := (S, oS) :: (T, oT) :: (a, tpO tv) :: rest) (.refl _)
    exact ⟨rfl, hq _ _ _ _ _ _ _ _ _ (F.drop (.cons_cons _ (.cons_cons _ (.cons _ (.refl _))))) hS ha hT by_ G6⟩
end
section
variable {w : World} {A : Around} {E : Value → Shared → Prop} {h₀ hb h h' : Heap} {g : Array GenState} {d : Drawn} {t tk : Nat} {os : OsState} {L S T CL a b c : Addr} {mg mb : Str → Option Value} {mean : ExcName → Option Value} {ns cns : List Str} {vs : List (Option Value)} {news rest : List (Addr × Obj)} {l m : List UInt8} {n : Nat}
  {env : Env} {pos : Pos} {s : Shared} {x : Str} {v : Value} {i j : Int} {u : Tok} {xs : List Value} {ks : List Int} {o1 o2 o7 oS oT oC : Obj}
theorem law3 {vl : List (Option Value)} {K : Shared → Prop} (W : Wd w mg mb mean h₀) (F : Fm h₀ L lawNs vl ((L + 7, o7) :: rest) h) (ho : o7.data = .cell none)
    (hq : ∀ h' o7 H tk', Fm h₀ L lawNs vl ((L + 7, o7) :: (H, lsO [] 0) :: rest) h' → o7.data = .cell (some (.ref H)) → K ⟨h', g, d, tk', os⟩) :
    wpAny (Mo w) A (exec (lawSt 3) (envLaw L)) (fun f s' => f = .next ∧ K s') (fun _ _ => False) ⟨h, g, d, tk, os⟩ := by
  have Y := (df_law w).fi
  refine wpAny_Assign_Name ?_
  repeat (wtm_at "ev")
  have F := F.perm (news' := (L + 7, o7) :: (a, lsO [] 0) :: rest) (List.perm_middle (l₁ := [(a, lsO [] 0)]))
  refine r_stC (c := L + 7) En.fnC Y (by wtm_at "mem") (by kernel_rfl) F ho fun h' o1' F ho' => ?_
  exact ⟨rfl, hq _ _ _ _ F ho'⟩
theorem law4 {P : Addr} {v0 v1 : Option Value} {vl : List (Option Value)} {K : Shared → Prop} (W : Wd w mg mb mean h₀) (F : Fm h₀ L lawNs (v0 :: v1 :: none :: vl) ((P, tabObj #[]) :: rest) h) (C : CodeHd h₀ 589 P)
    (hq : ∀ h' f c' oc fs t doc ctv (pt : Array Value) tk', Fm h₀ L lawNs (v0 :: v1 :: some (.ref f) :: vl) ((f, rdFn (L + 7) doc ((mg "__name__").getD .none) c' ctv) :: (c', oc) :: (P, tabObj pt) :: rest) h' → oc.data = .fields fs → fs[1]? = some (.str "law.<locals>.read" t) → K ⟨h', g, d, tk', os⟩) :
    wpAny (Mo w) A (exec (lawSt 4) (envLaw L)) (fun f s' => f = .next ∧ K s') (fun _ _ => False) ⟨h, g, d, tk, os⟩ := by
  have Y := (df_law w).fi
  (wtm_at "pc")
  obtain ⟨m, f0, l0⟩ := F.fr
  (wtm_at "pu")
  refine nestDef_K (by rfl) (by rfl) (by rfl) ?_
  refine nest_K (s := ⟨h, g, d, tk, os⟩) (clos := [("handed", L + 7)]) (mg := mg) f0 F.led W.t C rfl (.head fun p hp e => ?_) trivial rfl (by rfl) fun f c' oc fs t ctv doc h' tk' f1 N1 hd hv l1 l2 => ?_
  · have nd := F.nd
    rw [List.map_cons, List.nodup_cons] at nd
    exact nd.1 (List.mem_map.mpr ⟨p, hp, e⟩)
  have nd := F.nd
  have key : ∀ q ∈ ((P, tabObj #[]) :: rest).map (·.1), q < c' := fun q hq => by
    (wtm_at "pc")
    obtain ⟨z, hz, rfl⟩ := List.mem_map.mp hq
    (wtm_at "pu")
    exact l1 z hz
  have nd2 : (f :: c' :: ((P, tabObj #[]) :: rest).map (·.1)).Nodup := by
    rw [List.nodup_cons, List.nodup_cons]
    refine ⟨fun q => ?_, fun q => Nat.lt_irrefl _ (key _ q), nd⟩
    rcases List.mem_cons.mp q with e | q
    · exact absurd e (Nat.ne_of_gt l2)
    · exact Nat.lt_irrefl _ (Nat.lt_trans l2 (key _ q))
  obtain ⟨pt, F1⟩ : ∃ pt, Fm h₀ L lawNs (v0 :: v1 :: none :: vl) ((f, rdFn (L + 7) doc ((mg "__name__").getD .none) c' ctv) :: (c', oc) :: (P, tabObj pt) :: rest) h' := ⟨_, ⟨m, f1, l0⟩, N1, nd2⟩
  have F := F1
  refine r_st En.fnC Y F (by wtm_at "lup") fun h F => ?_
  exact ⟨rfl, hq _ _ _ _ _ _ _ _ pt _ F hd hv⟩
end
structure TupN (news : List (Addr × Obj)) (ys : List Value) (fs : List (Str × Str × Int)) : Prop where
  len : ys.length = fs.length
  at_ : ∀ (i : Nat) (v : Value) (f : Str × Str × Int), ys[i]? = some v → fs[i]? = some f → ∃ x t1 t2 t3, v = .ref x ∧ (x, tpO [.str f.1 t1, .str f.2.1 t2, .int f.2.2 t3]) ∈ news
theorem TupN.nil {news : List (Addr × Obj)} : TupN news [] [] := ⟨rfl, fun i v f e => by simp at e⟩
theorem TupN.mono {news news' : List (Addr × Obj)} {ys : List Value} {fs : List (Str × Str × Int)} (a : TupN news ys fs) (k : ∀ p ∈ news, p ∈ news') : TupN news' ys fs :=
  ⟨a.len, fun i v f e1 e2 => let ⟨x, t1, t2, t3, e, m⟩ := a.at_ i v f e1 e2; ⟨x, t1, t2, t3, e, k _ m⟩⟩
theorem TupN.snoc {news : List (Addr × Obj)} {ys : List Value} {fs : List (Str × Str × Int)} {x : Addr} {a b : Str} {c : Int} {t1 t2 t3 : Tok} (h : TupN news ys fs) (m : (x, tpO [.str a t1, .str b t2, .int c t3]) ∈ news) : TupN news (ys ++ [.ref x]) (fs ++ [(a, b, c)]) := by
  refine ⟨by simp [h.len], fun i v f e1 e2 => ?_⟩
  by_cases q : i < ys.length
  · rw [List.getElem?_append_left q] at e1
    rw [List.getElem?_append_left (by rw [← h.len]; exact q)] at e2
    exact h.at_ i v f e1 e2
  · rw [List.getElem?_append_right (by lia)] at e1
    rw [List.getElem?_append_right (by rw [← h.len]; lia), ← h.len] at e2
    have hi : i - ys.length = 0 := by
      have := (List.getElem?_eq_some_iff.mp e1).1
      simpa using this
    rw [hi] at e1 e2
    cases e1; cases e2
    exact ⟨x, t1, t2, t3, rfl, m⟩
noncomputable def hadL : List Str := ["head", "GDEF"]
noncomputable def hadF (ps : List Tb) (tags : List Str) : List (Str × Str × Int) := (tags.filter fun t => decide (t ∈ ps.map (·.1))).map fun t => (t, "cannot be read", 7)
theorem missF_next (ps : List Tb) (l : List Str) (t : Str) : missF ps (l ++ [t]) = missF ps l ++ if t ∈ (ps.map fun p : Str × List UInt8 => p.1) then ([] : List (Str × Str × Int)) else [(t, ("is missing" : Str), (-1 : Int))] := by
  unfold missF
  rw [List.filter_append, List.map_append, List.filter_cons]
  by_cases q : t ∈ ps.map (·.1) <;> simp [q]
theorem hadF_next (ps : List Tb) (l : List Str) (t : Str) : hadF ps (l ++ [t]) = hadF ps l ++ if t ∈ (ps.map fun p : Str × List UInt8 => p.1) then [(t, ("cannot be read" : Str), (7 : Int))] else ([] : List (Str × Str × Int)) := by
  unfold hadF
  rw [List.filter_append, List.map_append, List.filter_cons]
  by_cases q : t ∈ ps.map (·.1) <;> simp [q]
section
variable {w : World} {A : Around} {E : Value → Shared → Prop} {h₀ hb h h' : Heap} {g : Array GenState} {d : Drawn} {t tk : Nat} {os : OsState} {L S T CL a b c : Addr} {mg mb : Str → Option Value} {mean : ExcName → Option Value} {ns cns : List Str} {vs : List (Option Value)} {news rest : List (Addr × Obj)} {l m : List UInt8} {n : Nat}
  {env : Env} {pos : Pos} {s : Shared} {x : Str} {v : Value} {i j : Int} {u : Tok} {xs : List Value} {ks : List Int} {o1 o2 o7 oS oT oC : Obj} {kvs : List (Str × Value)} {ps : List Tb} {v0 v1 v2 : Option Value} {vl : List (Option Value)}
theorem law5 {K : Shared → Prop} (W : Wd w mg mb mean h₀) (F : Fm h₀ L lawNs (v0 :: v1 :: v2 :: none :: vl) rest h)
    (hq : ∀ h' D tk', Fm h₀ L lawNs (v0 :: v1 :: v2 :: some (.ref D) :: vl) ((D, lsO [] 0) :: rest) h' → K ⟨h', g, d, tk', os⟩) :
    wpAny (Mo w) A (exec (lawSt 5) (envLaw L)) (fun f s' => f = .next ∧ K s') (fun _ _ => False) ⟨h, g, d, tk, os⟩ := by
  have Y := (df_law w).fi
  refine wpAny_Assign_Name ?_
  repeat (wtm_at "ev")
  exact ⟨rfl, hq _ _ _ F⟩
theorem law6 {D : Addr} {K : Shared → Prop} (W : Wd w mg mb mean h₀) (R : Rm 6 A) (hh : A.handled = none) (F : Fm h₀ L lawNs (v0 :: v1 :: v2 :: some (.ref D) :: vl) ((D, lsO [] 0) :: rest) h)
    (m2 : (L + 2, o2) ∈ rest) (c2 : o2.data = .cell (some (.ref T))) (mT : (T, oT) ∈ rest) (hT : oT.IsDictOf (kS w) kvs) (lo : (T == sysModules) = false) (by_ : Bys kvs ps)
    (hq : ∀ h' v1 ys n more tk', Fm h₀ L lawNs (v0 :: v1 :: v2 :: some (.ref D) :: vl) ((D, lsO ys n) :: (more ++ rest)) h' → TupN more ys (missF ps needL) → K ⟨h', g, d, tk', os⟩) :
    wpAny (Mo w) A (exec (lawSt 6) (envLaw L)) (fun f s' => f = .next ∧ K s') (fun _ _ => False) ⟨h, g, d, tk, os⟩ := by
  have Y := (df_law w).fi
  (wtm_at "pc")
  obtain ⟨q1, q2, q3, q4, q5, q6, q7⟩ := lk L
  (wtm_at "pu")
  refine wpAny_For ?_
  repeat (wtm_at "ev")
  clear F
  (wtm_at "pc")
  obtain ⟨tv, htv, F⟩ : ∃ tv, Strs tv needL ∧ Fm h₀ L lawNs (v0 :: v1 :: v2 :: some (.ref D) :: vl) ((a, tpO tv) :: (D, lsO [] 0) :: rest) h := ⟨_, Strs.nil.snoc.snoc.snoc.snoc.snoc, FT⟩
  (wtm_at "pu")
  clear FT
  have Ia := F.get (.head _)
  refine r_iterT F (Tp.of Ia) fun I h3 oI F3 st3 neI k3 => ?_
  clear F
  have F := F3.perm (news' := (I, oI) :: (D, lsO [] 0) :: ([(a, tpO tv)] ++ rest)) (by wtm_at "pm")
  clear F3
  have htl : tv.length = 5 := htv.len
  refine for_at 1 En.fnC Y (Walks.tuple hh I a (Ne.symm neI) tv.toArray) st_tuple
    (fun i vs news => ∃ v1 ys n more, vs = v0 :: v1 :: v2 :: some (.ref D) :: vl ∧ news = (D, lsO ys n) :: (more ++ rest) ∧ (a, tpO tv) ∈ more ∧ TupN more ys (missF ps (needL.take i)))
    (fun b hb => ?_) rfl F st3 ⟨_, [], 0, [(a, tpO tv)], rfl, rfl, .head _, .nil⟩ ?_ ?_
  · rcases List.mem_cons.mp hb with rfl | q
    · exact .inl rfl
    · obtain rfl := List.mem_singleton.mp q
      refine .inr (.inr ⟨tpO tv, ?_⟩)
      intro i vs news hJ0
      (wtm_at "pc")
      obtain ⟨_, _, _, _, rfl, rfl, mm, _⟩ := hJ0
      (wtm_at "pu")
      exact .tail _ (List.mem_append_left _ mm)
  · intro i v vs₁ news₁ h tk oI hi pv hJ0 F
    (wtm_at "pc")
    obtain ⟨v1, ys, n, more, rfl, rfl, ma, tn⟩ := hJ0
    (wtm_at "pu")
    dsimp only [List.set] at F
    have hi5 : i < 5 := by rw [← htl]; simpa using hi
    obtain ⟨kk, ekk⟩ : ∃ kk, needL[i]? = some kk := ⟨needL[i]'(show i < needL.length from hi5), List.getElem?_eq_getElem _⟩
    obtain ⟨tt, rfl⟩ := htv.at_ i v kk (by simpa using pv) ekk
    have mT' := List.mem_append_right more mT
    have m2' := List.mem_append_right more m2
    have dk := Dk.led F (.tail _ (.tail _ mT')) hT lo
    have hyl : ys.length ≤ 5 := by
      rw [tn.len]
      have := miss_len ps (needL.take i)
      rw [List.length_take] at this; lia
    have enx : missF ps (needL.take (i + 1)) = missF ps (needL.take i) ++ if kk ∈ (ps.map fun p : Str × List UInt8 => p.1) then ([] : List (Str × Str × Int)) else [(kk, ("is missing" : Str), (-1 : Int))] := by
      rw [List.take_add_one, ekk, Option.toList_some, missF_next]
    refine wpAny_execs_cons ?_
    repeat (wtm_at "ev")
    refine r_notInD dk ?_
    rw [by_.isSome dk.nodup]
    repeat (wtm_at "ev")
    refine r_if (fun c => ?_) fun c => ?_
    · have c' : kk ∉ ps.map (·.1) := by simpa using c
      repeat (wtm_at "ev")
      refine BMeth.append (F.get (.tail _ (.head _))) ?_
      repeat (wtm_at "ev")
      clear F
      (wtm_at "pc")
      obtain ⟨t1, t2, t3, F⟩ : ∃ t1 t2 t3, Fm h₀ L lawNs (v0 :: some (.str kk tt) :: v2 :: some (.ref D) :: vl) ((a, tpO [.str kk t1, .str "is missing" t2, .int (-1) t3]) :: (I, oI) :: (D, lsO ys n) :: (more ++ rest)) h := ⟨_, _, _, FT⟩
      (wtm_at "pu")
      clear FT
      have F := F.perm (news' := (D, lsO ys n) :: (a, tpO [.str kk t1, .str "is missing" t2, .int (-1) t3]) :: (I, oI) :: (more ++ rest)) (by wtm_at "pm")
      refine r_append F (by lia) fun h n' F => ?_
      repeat (wtm_at "ev")
      refine ⟨rfl, _, _, _, _, rfl, F.perm (news' := (I, oI) :: (D, lsO (ys ++ [Value.ref a]) n') :: (((a, tpO [.str kk t1, .str "is missing" t2, .int (-1) t3]) :: more) ++ rest)) (by wtm_at "pm"), _, ys ++ [Value.ref a], n', _, rfl, rfl, .tail _ ma, ?_⟩
      rw [enx, if_neg c']
      exact (tn.mono fun p hp => .tail _ hp).snoc (.head _)
    · have c' : kk ∈ ps.map (·.1) := by simpa using c
      repeat (wtm_at "ev")
      refine ⟨rfl, _, _, _, _, rfl, F, _, ys, n, more, rfl, rfl, ma, ?_⟩
      rw [enx, if_pos c', List.append_nil]; exact tn
  · intro vs₁ news₁ h tk hJ0 F
    (wtm_at "pc")
    obtain ⟨v1, ys, n, more, rfl, rfl, ma, tn⟩ := hJ0
    (wtm_at "pu")
    have e : needL.take tv.toArray.size = needL := by rw [List.size_toArray, htl]; rfl
    rw [e] at tn
    exact ⟨rfl, hq _ _ _ _ _ _ F tn⟩
theorem law7 {D : Addr} {ys0 : List Value} {n0 : Nat} {fs0 : List (Str × Str × Int)} {K : Shared → Prop} (W : Wd w mg mb mean h₀) (R : Rm 6 A) (hh : A.handled = none) (F : Fm h₀ L lawNs (v0 :: v1 :: v2 :: some (.ref D) :: vl) ((D, lsO ys0 n0) :: rest) h)
    (m2 : (L + 2, o2) ∈ rest) (c2 : o2.data = .cell (some (.ref T))) (mT : (T, oT) ∈ rest) (hT : oT.IsDictOf (kS w) kvs) (lo : (T == sysModules) = false) (by_ : Bys kvs ps) (tn0 : TupN rest ys0 fs0) (hf0 : fs0.length ≤ 10)
    (hq : ∀ h' v1 ys n more tk', Fm h₀ L lawNs (v0 :: v1 :: v2 :: some (.ref D) :: vl) ((D, lsO ys n) :: (more ++ rest)) h' → TupN (more ++ rest) ys (fs0 ++ hadF ps hadL) → K ⟨h', g, d, tk', os⟩) :
    wpAny (Mo w) A (exec (lawSt 7) (envLaw L)) (fun f s' => f = .next ∧ K s') (fun _ _ => False) ⟨h, g, d, tk, os⟩ := by
  have Y := (df_law w).fi
  (wtm_at "pc")
  obtain ⟨q1, q2, q3, q4, q5, q6, q7⟩ := lk L
  (wtm_at "pu")
  refine wpAny_For ?_
  repeat (wtm_at "ev")
  clear F
  (wtm_at "pc")
  obtain ⟨tv, htv, F⟩ : ∃ tv, Strs tv hadL ∧ Fm h₀ L lawNs (v0 :: v1 :: v2 :: some (.ref D) :: vl) ((a, tpO tv) :: (D, lsO ys0 n0) :: rest) h := ⟨_, Strs.nil.snoc.snoc, FT⟩
  (wtm_at "pu")
  clear FT
  have Ia := F.get (.head _)
  refine r_iterT F (Tp.of Ia) fun I h3 oI F3 st3 neI k3 => ?_
  clear F
  have F := F3.perm (news' := (I, oI) :: (D, lsO ys0 n0) :: ([(a, tpO tv)] ++ rest)) (by wtm_at "pm")
  clear F3
  have htl : tv.length = 2 := htv.len
  refine for_at 1 En.fnC Y (Walks.tuple hh I a (Ne.symm neI) tv.toArray) st_tuple
    (fun i vs news => ∃ v1 ys n more, vs = v0 :: v1 :: v2 :: some (.ref D) :: vl ∧ news = (D, lsO ys n) :: (more ++ rest) ∧ (a, tpO tv) ∈ more ∧ TupN (more ++ rest) ys (fs0 ++ hadF ps (hadL.take i)))
    (fun b hb => ?_) rfl F st3 ⟨_, ys0, n0, [(a, tpO tv)], rfl, rfl, .head _, by rw [show hadF ps (hadL.take 0) = [] from rfl, List.append_nil]; exact tn0.mono fun p hp => .tail _ hp⟩ ?_ ?_
  · rcases List.mem_cons.mp hb with rfl | q
    · exact .inl rfl
    · obtain rfl := List.mem_singleton.mp q
      refine .inr (.inr ⟨tpO tv, ?_⟩)
      intro i vs news hJ0
      (wtm_at "pc")
      obtain ⟨_, _, _, _, rfl, rfl, mm, _⟩ := hJ0
      (wtm_at "pu")
      exact .tail _ (List.mem_append_left _ mm)
  · intro i v vs₁ news₁ h tk oI hi pv hJ0 F
    (wtm_at "pc")
    obtain ⟨v1, ys, n, more, rfl, rfl, ma, tn⟩ := hJ0
    (wtm_at "pu")
    dsimp only [List.set] at F
    have hi5 : i < 2 := by rw [← htl]; simpa using hi
    obtain ⟨kk, ekk⟩ : ∃ kk, hadL[i]? = some kk := ⟨hadL[i]'(show i < hadL.length from hi5), List.getElem?_eq_getElem _⟩
    obtain ⟨tt, rfl⟩ := htv.at_ i v kk (by simpa using pv) ekk
    have mT' := List.mem_append_right more mT
    have m2' := List.mem_append_right more m2
    have dk := Dk.led F (.tail _ (.tail _ mT')) hT lo
    have hyl : ys.length ≤ 12 := by
      rw [tn.len, List.length_append]
      have : (hadF ps (hadL.take i)).length ≤ (hadL.take i).length := by unfold hadF; rw [List.length_map]; exact List.length_filter_le _ _
      rw [List.length_take] at this
      have e2 : hadL.length = 2 := rfl
      lia
    have enx : hadF ps (hadL.take (i + 1)) = hadF ps (hadL.take i) ++ if kk ∈ (ps.map fun p : Str × List UInt8 => p.1) then [(kk, ("cannot be read" : Str), (7 : Int))] else ([] : List (Str × Str × Int)) := by
      rw [List.take_add_one, ekk, Option.toList_some, hadF_next]
    refine wpAny_execs_cons ?_
    repeat (wtm_at "ev")
    refine r_inD dk ?_
    rw [by_.isSome dk.nodup]
    repeat (wtm_at "ev")
    refine r_if (fun c => ?_) fun c => ?_
    · have c1 : kk ∈ ps.map (·.1) := by simpa using c
      repeat (wtm_at "ev")
      refine BMeth.append (F.get (.tail _ (.head _))) ?_
      repeat (wtm_at "ev")
      clear F
      (wtm_at "pc")
      obtain ⟨t1, t2, t3, F⟩ : ∃ t1 t2 t3, Fm h₀ L lawNs (v0 :: some (.str kk tt) :: v2 :: some (.ref D) :: vl) ((a, tpO [.str kk t1, .str "cannot be read" t2, .int 7 t3]) :: (I, oI) :: (D, lsO ys n) :: (more ++ rest)) h := ⟨_, _, _, FT⟩
      (wtm_at "pu")
      clear FT
      have F := F.perm (news' := (D, lsO ys n) :: (a, tpO [.str kk t1, .str "cannot be read" t2, .int 7 t3]) :: (I, oI) :: (more ++ rest)) (by wtm_at "pm")
      refine r_append F (by lia) fun h n' F => ?_
      repeat (wtm_at "ev")
      refine ⟨rfl, _, _, _, _, rfl, F.perm (news' := (I, oI) :: (D, lsO (ys ++ [Value.ref a]) n') :: (((a, tpO [.str kk t1, .str "cannot be read" t2, .int 7 t3]) :: more) ++ rest)) (by wtm_at "pm"), _, ys ++ [Value.ref a], n', _, rfl, rfl, .tail _ ma, ?_⟩
      rw [enx, if_pos c1, ← List.append_assoc]
      exact (tn.mono fun p hp => .tail _ hp).snoc (.head _)
    · have c2 : kk ∉ ps.map (·.1) := by simpa using c
      repeat (wtm_at "ev")
      refine ⟨rfl, _, _, _, _, rfl, F, _, ys, n, more, rfl, rfl, ma, ?_⟩
      rw [enx, if_neg c2, List.append_nil]; exact tn
  · intro vs₁ news₁ h tk hJ0 F
    (wtm_at "pc")
    obtain ⟨v1, ys, n, more, rfl, rfl, ma, tn⟩ := hJ0
    (wtm_at "pu")
    have e : hadL.take tv.toArray.size = hadL := by rw [List.size_toArray, htl]; rfl
    rw [e] at tn
    exact ⟨rfl, hq _ _ _ _ _ _ F tn⟩
end
theorem tagL_asc : tagL.Pairwise (fun a b => a.cps.toList < b.cps.toList) := by decide +kernel
theorem tagL_ok : ∀ y ∈ tagL, TagOk y := by
  have : ∀ y ∈ tagL, y.cps.size = 4 ∧ (∀ c ∈ y.cps.toList, 32 ≤ c) ∧ ∀ c ∈ y.cps.toList, c ≤ 126 := by decide +kernel
  exact fun y hy => ⟨(this y hy).1, (this y hy).2.1, (this y hy).2.2⟩
theorem Grow.ok {ps : List Tb} (G : Grow 6 ps) : TbOk ps := by
  have sub : (ps.map (·.1)).Sublist tagL := G.sub
  refine ⟨fun i x y e1 e2 => ?_, fun p hp => tagL_ok _ (sub.subset (List.mem_map.mpr ⟨p, hp, rfl⟩)), G.len, G.two (Nat.le_refl _), ?_⟩
  · have pw := tagL_asc.sublist sub
    obtain ⟨h1, rfl⟩ := List.getElem?_eq_some_iff.mp e1
    obtain ⟨h2, rfl⟩ := List.getElem?_eq_some_iff.mp e2
    exact List.pairwise_iff_getElem.mp pw i (i + 1) h1 h2 (Nat.lt_succ_self _)
  · have := sub.length_le
    rw [List.length_map] at this; exact this
section
variable {w : World} {A : Around} {E : Value → Shared → Prop} {h₀ hb h h' : Heap} {g : Array GenState} {d : Drawn} {t tk : Nat} {os : OsState} {L S T CL a b c : Addr} {mg mb : Str → Option Value} {mean : ExcName → Option Value} {ns cns : List Str} {vs : List (Option Value)} {news rest : List (Addr × Obj)} {l m : List UInt8} {n : Nat}
  {env : Env} {pos : Pos} {s : Shared} {x : Str} {v : Value} {i j : Int} {u : Tok} {xs : List Value} {ks : List Int} {o1 o2 o7 oS oT oC : Obj} {kvs : List (Str × Value)} {ps : List Tb} {v0 v1 v2 v3 : Option Value} {vl : List (Option Value)}
theorem law8 {K : Shared → Prop} (W : Wd w mg mb mean h₀) (R : Rm 14 A) (hh : A.handled = none) (F : Fm h₀ L lawNs (v0 :: v1 :: v2 :: v3 :: none :: vl) rest h)
    (m2 : (L + 2, o2) ∈ rest) (c2 : o2.data = .cell (some (.ref T))) (mT : (T, oT) ∈ rest) (hT : oT.IsDictOf (kS w) kvs) (lo : (T == sysModules) = false) (by_ : Bys kvs ps) (ok : TbOk ps)
    (hq : ∀ h' f t tk', Fm h₀ L lawNs (v0 :: v1 :: v2 :: v3 :: some (.bytes f.toArray t) :: vl) rest h' → Wrote ps f → K ⟨h', g, d, tk', os⟩) :
    wpR (Mo w) A (exec (lawSt 8) (envLaw L)) (fun f s' => f = .next ∧ K s') ⟨h, g, d, tk, os⟩ := by
  have Y := (df_law w).fi
  (wtm_at "pc")
  obtain ⟨q1, q2, q3, q4, q5, q6, q7⟩ := lk L
  (wtm_at "pu")
  refine R_assign (R_callName ?_)
  repeat (wtm_at "ev")
  refine R_cwK W (by kernel_rfl) ?_
  repeat (wtm_at "ev")
  refine ⟨F.keep, write_sfnt_c (W.keeps F.keep) R.le hh (Dk.led F mT hT lo) by_ ok fun h' t tk' f k wr => ?_⟩
  replace F := F.ext k
  repeat (wtm_at "ev")
  exact ⟨rfl, hq _ _ _ _ F wr⟩
end
section
variable {w : World} {A : Around} {E : Value → Shared → Prop} {h₀ hb h h' : Heap} {g : Array GenState} {d : Drawn} {t tk : Nat} {os : OsState} {L S T CL D a b c : Addr} {mg mb : Str → Option Value} {mean : ExcName → Option Value} {ns cns : List Str} {vs : List (Option Value)} {news rest : List (Addr × Obj)} {l : List UInt8} {n m : Nat}
  {env : Env} {pos : Pos} {s : Shared} {x : Str} {v : Value} {i j : Int} {u : Tok} {xs ys : List Value} {ks : List Int} {fs : List (Str × Str × Int)} {cs scope : Scope} {cl clo : List (Str × Addr)} {iter : PySem.Expr} {p1 p2 p3 px : Pos}
theorem told_n {x : Addr} {tag what at_ : Value} {hB : Heap} {Q : Value → Shared → Prop} (W : Wd w mg mb mean hB) (R : Rm 1 A) (I : At hB x 456 [("tag", tag), ("what", what), ("at", at_)]) (h1 : handedIn tag = true) (h2 : handedIn what = true) (h3 : handedIn at_ = true)
    (hq : ∀ h' a tk', Ext hB h' → h'.get? a = some (tpO [tag, what, at_]) → hB.get? a = none → Q (.ref a) ⟨h', g, d, tk', os⟩) : wpAny (Mo w) A (call (.ref 453) [.ref x]) Q E ⟨hB, g, d, tk, os⟩ := by
  refine callP (df_Finding_told w) W R.room rfl fun L h₁ tk₁ F => ?_
  have Y := (df_Finding_told w).fi
  (wtm_at "f0")
  have I := I.ext F.keep
  refine wpAny_execs_cons ?_
  repeat (wtm_at "ev")
  exact hq _ _ _ FT.keep Ia (FT.led _ (.head _)).2.2
theorem told_comp {Q : Value → Shared → Prop} (en : En env L cs cl) (Yc : Fi (relabel scope env) ["finding"] [] [] []) (hcell : ∀ y ∈ scope.names, y.2 ≠ .cell) (hkind : scope.kind = .function) (W : Wd w mg mb mean h₀) (R : Rm 3 A) (hh : A.handled = none)
    (he : ∀ C, ∃ pl, eval (.Call (.Attribute (.Name "finding" p1) "told" p2) [] [] p3) (compEnvC scope clo C env) = (do
      let ov ← eval (.Name "finding" p1) (compEnvC scope clo C env)
      standAt p2.atName
      let (f, first) ← holding [ov] (getMethod ov "told" pl)
      callWith p3 f first (backTo p3 (starEach [] (compEnvC scope clo C env))) (backToKw p3 (keywordEach [] (compEnvC scope clo C env)))))
    (F : Fm h₀ L ns vs news h) (mD : (D, lsO ys m) ∈ news) (fn : FN news ys fs) (hlen : fs.length ≤ 100)
    (hq : ∀ D' zs n' more h' tk', Fm h₀ L ns vs ((D', lsO zs n') :: (more ++ news)) h' → TupN more zs fs → Q (.ref D') ⟨h', g, d, tk', os⟩) :
    wpAny (Mo w) A (pyIter (.ref D)) (compTail w A E (.Call (.Attribute (.Name "finding" p1) "told" p2) [] [] p3) px "finding" iter [] scope pos clo env none Q) E ⟨h, g, d, tk, os⟩ := by
  refine r_iterL F (Ls.of (F.get mD)) fun I h3 oI F3 st3 neI k3 => ?_
  clear F
  have hyl := fn.len
  refine comp_fin0 (nsC := ["finding"]) (cnsC := []) (gsC := []) (bsC := []) 0 en rfl Yc hcell hkind (Walks.list hh I D (Ne.symm neI) ys.toArray) st_list
    (fun i zs nw => ∃ more, nw = more ++ news ∧ TupN more zs (fs.take i)) (fun b hb => ?_) rfl (by rw [sizeLine_eq, List.size_toArray]; lia) W F3 st3 ⟨[], rfl, .nil⟩ ?_ ?_
  · rcases List.mem_cons.mp hb with rfl | q
    · exact .inl rfl
    · obtain rfl := List.mem_singleton.mp q
      refine .inr (.inr ⟨lsO ys m, ?_⟩)
      intro i zs nw hJ0
      (wtm_at "pc")
      obtain ⟨more, rfl, _⟩ := hJ0
      (wtm_at "pu")
      exact List.mem_append_right _ mD
  · intro hb' C D' i v zs nw h tk oI ep Y W keep hi pv hJ0 F en
    (wtm_at "pc")
    obtain ⟨more, rfl, tn⟩ := hJ0
    (wtm_at "pu")
    (wtm_at "fs")
    have hif : i < fs.length := by rw [← hyl]; simpa using hi
    (wtm_at "pc")
    obtain ⟨x, dx, es, n, t1, t2, t3, rfl, mx1, mx2, rep⟩ := fn.at_ i v fs[i] (by simpa using pv) (List.getElem?_eq_getElem hif)
    (wtm_at "pu")
    have aX := At.mem F rep (.tail _ (.tail _ (List.mem_append_right _ mx1))) (.tail _ (.tail _ (List.mem_append_right _ mx2)))
    obtain ⟨pl, he⟩ := he C
    refine r_callM0 ?_ he
    repeat (wtm_at "ev")
    refine told_n (W.keeps F.keep) R.le aX rfl rfl rfl fun h' z tk' k ez fz => ?_
    have F := F.fresh (cells := [(z, tpO [Value.str fs[i].1 t1, .str fs[i].2.1 t2, .int fs[i].2.2 t3])]) k (fun p hp => by obtain rfl := List.mem_singleton.mp hp; exact ⟨ez, fz⟩) (by simp)
    refine ⟨_, _, _, _, rfl, F.perm (news' := (I, oI) :: (D', lsO zs ep) :: (((z, tpO [Value.str fs[i].1 t1, .str fs[i].2.1 t2, .int fs[i].2.2 t3]) :: more) ++ news)) (by wtm_at "pm"), _, rfl, ?_⟩
    rw [List.take_add_one, List.getElem?_eq_getElem hif]
    exact (tn.mono fun p hp => .tail _ hp).snoc (.head _)
  · intro D' zs nw h tk ep hJ0 F
    (wtm_at "pc")
    obtain ⟨more, rfl, tn⟩ := hJ0
    (wtm_at "pu")
    have e : fs.take ys.toArray.size = fs := by rw [List.size_toArray, hyl, List.take_length]
    rw [e] at tn
    exact hq D' zs ep more h tk F tn
theorem ne_tups {fs : List (Str × Str × Int)} {n2 : Nat} {ys zs : List Value} {Q : Value → Shared → Prop} (F : Fm h₀ L ns vs news h) (ma : (a, lsO ys n) ∈ news) (mb' : (b, lsO zs n2) ∈ news) (ta : TupN news ys fs) (tb : TupN news zs fs) (R : Rm 1 A)
    (hq : Q (.bool false) ⟨h, g, d, tk, os⟩) : wpAny (Mo w) A (compareOp .NotEq (.ref a) (.ref b)) Q E ⟨h, g, d, tk, os⟩ := by
  have hl : ys.length = zs.length := ta.len.trans tb.len.symm
  refine r_neLists (fun _ => true) (F.get ma) (F.get mb') hl R.units (fun j h1 h2 => ?_) ?_
  · have h3 : j < fs.length := by rw [← ta.len]; exact h1
    (wtm_at "pc")
    obtain ⟨x, t1, t2, t3, e1, m1⟩ := ta.at_ j _ fs[j] (List.getElem?_eq_getElem h1) (List.getElem?_eq_getElem h3)
    (wtm_at "pu")
    (wtm_at "pc")
    obtain ⟨y, u1, u2, u3, e2, m2⟩ := tb.at_ j _ fs[j] (List.getElem?_eq_getElem h2) (List.getElem?_eq_getElem h3)
    (wtm_at "pu")
    rw [e1, e2]
    by_cases q : x = y
    · rw [q]; exact SeqAt.EqAt.same _
    · refine SeqAt.EqAt.of_refs q ?_
      have := SeqAt.RcAt.tuples (A := A.in1) (s := ⟨h, g, d, tk, os⟩) (e := fun _ => true) (l := x) (b := y) (items := #[.str fs[j].1 t1, .str fs[j].2.1 t2, .int fs[j].2.2 t3]) (items2 := #[.str fs[j].1 u1, .str fs[j].2.1 u2, .int fs[j].2.2 u3])
        ⟨_, F.get m1, rfl, _, rfl⟩ ⟨_, F.get m2, rfl, _, rfl⟩ ?_ ?_
      · exact this
      · have := R.uni; show A.units + 1 < cLine; lia
      · intro k k1 k2
        match k, k1, k2 with
        | 0, _, _ => have := @SeqAt.EqAt.str_str A.in1.in1 ⟨h, g, d, tk, os⟩ fs[j].1 t1 fs[j].1 u1; simpa using this
        | 1, _, _ => have := @SeqAt.EqAt.str_str A.in1.in1 ⟨h, g, d, tk, os⟩ fs[j].2.1 t2 fs[j].2.1 u2; simpa using this
        | 2, _, _ => have := @SeqAt.EqAt.int_int A.in1.in1 ⟨h, g, d, tk, os⟩ fs[j].2.2 t3 fs[j].2.2 u3; simpa using this
        | k + 3, k1, _ => exact absurd k1 (by simp)
  · have e : (!(List.range ys.length).all fun _ => true) = false := by simp
    rw [e]; exact hq
end
section
variable {w : World} {A : Around} {E : Value → Shared → Prop} {h₀ hb h h' : Heap} {g : Array GenState} {d : Drawn} {t tk : Nat} {os : OsState} {L S T CL D H rd c' a b c : Addr} {mg mb : Str → Option Value} {mean : ExcName → Option Value} {ns cns : List Str} {vs : List (Option Value)} {news rest : List (Addr × Obj)} {l m f : List UInt8} {n n2 cnt : Nat}
  {env : Env} {pos : Pos} {s : Shared} {x : Str} {v : Value} {i j : Int} {u : Tok} {xs ys zs : List Value} {ks : List Int} {o1 o2 o7 oS oT oC oc : Obj} {kvs : List (Str × Value)} {ps : List Tb} {v0 v1 v2 v3 : Option Value} {vl : List (Option Value)} {fs : List (Str × Str × Int)} {doc pm ctv : Value} {fl : Array Value}
structure RdN (L rd H : Addr) (news : List (Addr × Obj)) : Prop where
  fn : ∃ doc pm c' ctv oc fl t, (rd, rdFn (L + 7) doc pm c' ctv) ∈ news ∧ (c', oc) ∈ news ∧ oc.data = .fields fl ∧ fl[1]? = some (.str "law.<locals>.read" t)
  cell : ∃ o7, (L + 7, o7) ∈ news ∧ o7.data = .cell (some (.ref H))
theorem RdN.mono {news news' : List (Addr × Obj)} (r : RdN L rd H news) (k : ∀ p ∈ news, p ∈ news') : RdN L rd H news' :=
  ⟨by
    (wtm_at "pc")
    obtain ⟨doc, pm, c', ctv, oc, fl, t, a, b, e⟩ := r.fn
    (wtm_at "pu")
    exact ⟨doc, pm, c', ctv, oc, fl, t, k _ a, k _ b, e⟩, let ⟨o7, a, b⟩ := r.cell; ⟨o7, k _ a, b⟩⟩
theorem RdN.at_ (F : Fm h₀ L ns vs ((H, lsO zs n) :: rest) h) (r : RdN L rd H rest) : RdAt (hideAll h [L, H]) rd (L + 7) H := by
  obtain ⟨⟨doc, pm, c', ctv, oc, fl, t, m1, m2, e1, e2⟩, ⟨o7, m3, e3⟩⟩ := r
  have nd := F.nd
  rw [List.map_cons, List.nodup_cons] at nd
  have key : ∀ p ∈ rest, (hideAll h [L, H]).get? p.1 = some p.2 := fun p hp => hideAll_get _ (F.get (.tail _ hp)) fun z => by
    rcases List.mem_cons.mp z with z | z
    · exact (F.led p (.tail _ hp)).2.1 z
    · exact nd.1 (by rw [← List.mem_singleton.mp z]; exact List.mem_map.mpr ⟨p, hp, rfl⟩)
  exact ⟨⟨doc, pm, c', ctv, key _ m1, ⟨c', oc, fl, t, rfl, key _ m2, e1, e2⟩⟩, ⟨o7, key _ m3, e3⟩⟩
theorem law9 {td : Tok} {K : Shared → Prop} (W : Wd w mg mb mean h₀) (R : Rm 16 A) (hh : A.handled = none) (hA : A.frames = some [envLaw L]) (F : Fm h₀ L lawNs (v0 :: v1 :: some (.ref rd) :: some (.ref D) :: some (.bytes f.toArray td) :: vl) ((H, lsO zs n) :: rest) h)
    (r : RdN L rd H rest) (mD : (D, lsO ys n2) ∈ rest) (tn : TupN rest ys fs) (G : Good f cnt) (hz : zs.length ≤ 900) (hmiss : ("hhea" : Str) ∉ (tabsOf f cnt).map (·.1)) (efs : (wrongs f (recsD f cnt)).map sumF ++ findingsOf (tabsOf f cnt) = fs) (hfs : fs.length ≤ 100)
    (hq : ∀ h' zs' n' tk', zs'.length ≤ zs.length + 10 → Fm h₀ L lawNs (v0 :: v1 :: some (.ref rd) :: some (.ref D) :: some (.bytes f.toArray td) :: vl) ((H, lsO zs' n') :: rest) h' → K ⟨h', g, d, tk', os⟩) :
    wpAny (Mo w) A (exec (lawSt 9) (envLaw L)) (fun f s' => f = .next ∧ K s') (fun _ _ => False) ⟨h, g, d, tk, os⟩ := by
  have Y := (df_law w).fi
  (wtm_at "pc")
  obtain ⟨q1, q2, q3, q4, q5, q6, q7⟩ := lk L
  (wtm_at "pu")
  refine wpAny_If ?_
  repeat (wtm_at "ev")
  refine check_file_c (frs := []) (rest := rest) W F R.le hh hA rfl rfl .nil (r.at_ F) G hz hmiss fun h' frs' zs' n' more D' ys' m' tk' sl F mD' cp hz' fn => ?_
  cases sl
  rw [efs] at fn
  have F : Fm h₀ L lawNs (v0 :: v1 :: some (.ref rd) :: some (.ref D) :: some (.bytes f.toArray td) :: vl) ((H, lsO (zs ++ zs') n') :: (more ++ rest)) h' := F
  refine told_comp En.fnC (Fi.of (by kernel_rfl)) (by decide +kernel) rfl W R.le hh (fun C => ⟨_, rfl⟩) F (.tail _ (List.mem_append_left _ mD')) (fn.mono fun p hp => .tail _ (List.mem_append_left _ hp)) hfs fun D2 ws n3 more2 h2 tk2 F tw => ?_
  repeat (wtm_at "ev")
  refine ne_tups F (.head _) (.tail _ (List.mem_append_right _ (.tail _ (List.mem_append_right _ mD)))) (tw.mono fun p hp => .tail _ (List.mem_append_left _ hp)) (tn.mono fun p hp => .tail _ (List.mem_append_right _ (.tail _ (List.mem_append_right _ hp)))) R.le ?_
  repeat (wtm_at "ev")
  refine ⟨rfl, hq _ (zs ++ zs') n' _ (by simp; lia) (F.drop ?_)⟩
  refine .cons _ ?_
  refine (List.sublist_append_of_sublist_right (.cons_cons _ (List.sublist_append_right _ _)))
end
section
variable {w : World} {A : Around} {E : Value → Shared → Prop} {h₀ hb h h' : Heap} {g : Array GenState} {d : Drawn} {t tk : Nat} {os : OsState} {L S T CL D H rd c' a b c TL BL : Addr} {mg mb : Str → Option Value} {mean : ExcName → Option Value} {ns cns : List Str} {vs : List (Option Value)} {news rest : List (Addr × Obj)} {l m f : List UInt8} {n n2 cnt : Nat}
  {env : Env} {pos : Pos} {s : Shared} {x : Str} {v : Value} {i j : Int} {u : Tok} {xs ys zs : List Value} {o1 o2 o3 o4 o7 oS oT oC oc : Obj} {kvs : List (Str × Value)} {ps : List Tb} {v0 v1 v2 v3 v4 : Option Value} {vl : List (Option Value)} {fs : List (Str × Str × Int)} {doc pm ctv : Value} {fl : Array Value}
theorem law10 {K : Shared → Prop} (W : Wd w mg mb mean h₀) (hh : A.handled = none) (F : Fm h₀ L lawNs vl ((L + 3, o3) :: rest) h) (ho : o3.data = .cell none)
    (m2 : (L + 2, o2) ∈ rest) (c2 : o2.data = .cell (some (.ref T))) (mT : (T, oT) ∈ rest) (hT : oT.IsDictOf (kS w) kvs) (lo : (T == sysModules) = false) (by_ : Bys kvs ps) (ok : TbOk ps)
    (hq : ∀ h' o3 TL ks n tk', Fm h₀ L lawNs vl ((L + 3, o3) :: (TL, lsO ks n) :: rest) h' → o3.data = .cell (some (.ref TL)) → Strs ks (ps.map (·.1)) → K ⟨h', g, d, tk', os⟩) :
    wpAny (Mo w) A (exec (lawSt 10) (envLaw L)) (fun f s' => f = .next ∧ K s') (fun _ _ => False) ⟨h, g, d, tk, os⟩ := by
  have Y := (df_law w).fi
  (wtm_at "pc")
  obtain ⟨q1, q2, q3, q4, q5, q6, q7⟩ := lk L
  (wtm_at "pu")
  refine wpAny_Assign_Name ?_
  repeat (wtm_at "ev")
  have h2 := ok.two
  have h6 := ok.six
  have hl := by_.length
  refine r_sortedD F hh (Dk.led F (.tail _ mT) hT lo) (by rw [by_.keys]; exact ok.asc) (by lia) (by lia) fun TL ks n h' tk' sk F => ?_
  rw [by_.keys] at sk
  have F := F.perm (news' := (L + 3, o3) :: (TL, lsO ks n) :: rest) (.swap ..)
  refine r_stC (c := L + 3) En.fnC Y (by wtm_at "mem") (by kernel_rfl) F ho fun h' o1' F ho' => ?_
  exact ⟨rfl, hq _ _ _ _ _ _ F ho' sk⟩
theorem law11 {K : Shared → Prop} (W : Wd w mg mb mean h₀) (F : Fm h₀ L lawNs vl ((L + 4, o4) :: rest) h) (ho : o4.data = .cell none)
    (hq : ∀ h' o4 BL tk', Fm h₀ L lawNs vl ((L + 4, o4) :: (BL, lsO [] 0) :: rest) h' → o4.data = .cell (some (.ref BL)) → K ⟨h', g, d, tk', os⟩) :
    wpAny (Mo w) A (exec (lawSt 11) (envLaw L)) (fun f s' => f = .next ∧ K s') (fun _ _ => False) ⟨h, g, d, tk, os⟩ := by
  have Y := (df_law w).fi
  refine wpAny_Assign_Name ?_
  repeat (wtm_at "ev")
  have F := F.perm (news' := (L + 4, o4) :: (a, lsO [] 0) :: rest) (List.perm_middle (l₁ := [(a, lsO [] 0)]))
  refine r_stC (c := L + 4) En.fnC Y (by wtm_at "mem") (by kernel_rfl) F ho fun h' o1' F ho' => ?_
  exact ⟨rfl, hq _ _ _ _ F ho'⟩
theorem law12 {ks : List Value} {K : Shared → Prop} (W : Wd w mg mb mean h₀) (F : Fm h₀ L lawNs (v0 :: v1 :: v2 :: v3 :: v4 :: none :: vl) rest h) (m3 : (L + 3, o3) ∈ rest) (c3 : o3.data = .cell (some (.ref TL))) (mL : (TL, lsO ks n) ∈ rest) (hk : ks.length ≤ 10)
    (hq : ∀ h' t tk', Fm h₀ L lawNs (v0 :: v1 :: v2 :: v3 :: v4 :: some (.int (12 + 16 * (ks.length : Int)) t) :: vl) rest h' → K ⟨h', g, d, tk', os⟩) :
    wpAny (Mo w) A (exec (lawSt 12) (envLaw L)) (fun f s' => f = .next ∧ K s') (fun _ _ => False) ⟨h, g, d, tk, os⟩ := by
  have Y := (df_law w).fi
  (wtm_at "pc")
  obtain ⟨q1, q2, q3, q4, q5, q6, q7⟩ := lk L
  (wtm_at "pu")
  refine wpAny_Assign_Name ?_
  repeat (wtm_at "ev")
  refine r_lenL (Ls.of (F.get mL)) (by lia) ?_
  repeat (wtm_at "ev")
  exact ⟨rfl, hq _ _ _ F⟩
end
noncomputable def begs (b : Nat) (ps : List Tb) (i : Nat) : List Int := (List.range i).map fun j => ((endFrom b (ps.take j) : Nat) : Int)
theorem endFrom_next {b : Nat} {ps : List Tb} {i : Nat} {p : Tb} (h : ps[i]? = some p) : endFrom b (ps.take (i + 1)) = endFrom b (ps.take i) + (p.2.length + pad p.2.length) := by
  rw [List.take_add_one, h, Option.toList_some, endFrom_snoc, fill_length, bodyOf_length]
section
variable {w : World} {A : Around} {E : Value → Shared → Prop} {h₀ hb h h' : Heap} {g : Array GenState} {d : Drawn} {t tk : Nat} {os : OsState} {L S T CL D H rd c' a b c TL BL : Addr} {mg mb : Str → Option Value} {mean : ExcName → Option Value} {ns cns : List Str} {vs : List (Option Value)} {news rest : List (Addr × Obj)} {l m f : List UInt8} {n n2 cnt : Nat}
  {env : Env} {pos : Pos} {s : Shared} {x : Str} {v : Value} {i j : Int} {u : Tok} {xs ys zs : List Value} {o1 o2 o3 o4 o7 oS oT oC oc : Obj} {kvs : List (Str × Value)} {ps : List Tb} {v0 v1 v2 v3 v4 : Option Value} {vl : List (Option Value)} {fs : List (Str × Str × Int)} {doc pm ctv : Value} {fl : Array Value}
theorem law13 {ks : List Value} {b0 : Nat} {tp : Tok} {K : Shared → Prop} (W : Wd w mg mb mean h₀) (hh : A.handled = none) (F : Fm h₀ L lawNs (v0 :: v1 :: v2 :: v3 :: v4 :: some (.int (b0 : Int) tp) :: vl) ((BL, lsO [] 0) :: rest) h)
    (m2 : (L + 2, o2) ∈ rest) (c2 : o2.data = .cell (some (.ref T))) (mT : (T, oT) ∈ rest) (hT : oT.IsDictOf (kS w) kvs) (lo : (T == sysModules) = false) (by_ : Bys kvs ps) (ok : TbOk ps)
    (m3 : (L + 3, o3) ∈ rest) (c3 : o3.data = .cell (some (.ref TL))) (mL : (TL, lsO ks n) ∈ rest) (sk : Strs ks (ps.map (·.1))) (m4 : (L + 4, o4) ∈ rest) (c4 : o4.data = .cell (some (.ref BL)))
    (hq : ∀ h' v1 v5 ys n tk', Fm h₀ L lawNs (v0 :: v1 :: v2 :: v3 :: v4 :: v5 :: vl) ((BL, lsO ys n) :: rest) h' → IntsAre ys (begs b0 ps ps.length) → K ⟨h', g, d, tk', os⟩) :
    wpAny (Mo w) A (exec (lawSt 13) (envLaw L)) (fun f s' => f = .next ∧ K s') (fun _ _ => False) ⟨h, g, d, tk, os⟩ := by
  have Y := (df_law w).fi
  (wtm_at "pc")
  obtain ⟨q1, q2, q3, q4, q5, q6, q7⟩ := lk L
  (wtm_at "pu")
  have hks : ks.length = ps.length := by rw [sk.len, List.length_map]
  have h6 := ok.six
  refine wpAny_For ?_
  repeat (wtm_at "ev")
  refine r_iterL F (Ls.of (F.get (.tail _ mL))) fun I h3 oI F3 st3 neI k3 => ?_
  clear F
  refine for_at 1 En.fnC Y (Walks.list hh I TL (Ne.symm neI) ks.toArray) st_list
    (fun i vs news => ∃ v1 t5 ys n, vs = v0 :: v1 :: v2 :: v3 :: v4 :: some (.int (endFrom b0 (ps.take i) : Nat) t5) :: vl ∧ news = (BL, lsO ys n) :: rest ∧ IntsAre ys (begs b0 ps i))
    (fun b hb => ?_) rfl F3 st3 ⟨_, _, [], 0, rfl, rfl, .nil⟩ ?_ ?_
  · rcases List.mem_cons.mp hb with rfl | q
    · exact .inl rfl
    · obtain rfl := List.mem_singleton.mp q
      refine .inr (.inr ⟨lsO ks n, ?_⟩)
      intro i vs news hJ0
      (wtm_at "pc")
      obtain ⟨_, _, _, _, rfl, rfl, _⟩ := hJ0
      (wtm_at "pu")
      exact .tail _ mL
  · intro i v vs₁ news₁ h tk oI hi pv hJ0 F
    (wtm_at "pc")
    obtain ⟨v1, t5, ys, n, rfl, rfl, iy⟩ := hJ0
    (wtm_at "pu")
    dsimp only [List.set] at F
    have hi' : i < ps.length := by rw [← hks]; simpa using hi
    obtain ⟨pp, hpp⟩ : ∃ pp, ps[i]? = some pp := ⟨_, List.getElem?_eq_getElem hi'⟩
    have mpp := List.mem_of_getElem? hpp
    obtain ⟨tt, rfl⟩ := sk.at_ i v pp.1 (by simpa using pv) (by rw [List.getElem?_map, hpp]; rfl)
    have dk := Dk.led F (.tail _ (.tail _ mT)) hT lo
    have lenp := ok.len _ mpp
    obtain ⟨tv, hv⟩ := by_.valueAt (by rw [← by_.keys]; exact dk.nodup) (k := pp.1) (l := pp.2) mpp
    have hyl : ys.length ≤ 6 := by rw [iy.length]; unfold begs; simp; lia
    refine wpAny_execs_cons ?_
    repeat (wtm_at "ev")
    refine BMeth.append (F.get (.tail _ (.head _))) ?_
    repeat (wtm_at "ev")
    have F := F.perm (news' := (BL, lsO ys n) :: (I, oI) :: rest) (.swap ..)
    refine r_append F (by lia) fun h n' F => ?_
    repeat (wtm_at "ev")
    have dk := Dk.led F (.tail _ (.tail _ mT)) hT lo
    refine r_itemD dk hv ?_
    repeat (wtm_at "ev")
    refine r_itemD (Dk.led F (.tail _ (.tail _ mT)) hT lo) hv ?_
    repeat (wtm_at "ev")
    have en := endFrom_next (b := b0) (hpp)
    have ee : ((endFrom b0 (ps.take i) : Nat) : Int) + (pp.2.length : Nat) + (-((pp.2.length : Nat) : Int)).fmod 4 = ((endFrom b0 (ps.take (i + 1)) : Nat) : Int) := by
      rw [pad_fmod, en]; lia
    rw [ee] at F
    refine ⟨rfl, _, _, _, _, rfl, F.perm (news' := (I, oI) :: (BL, lsO (ys ++ [Value.int ((endFrom b0 (ps.take i) : Nat) : Int) t5]) n') :: rest) (.swap ..), _, _, _, n', rfl, rfl, ?_⟩
    unfold begs at iy ⊢
    rw [List.range_succ, List.map_append]
    exact iy.append (.cons _ _ .nil)
  · intro vs₁ news₁ h tk hJ0 F
    (wtm_at "pc")
    obtain ⟨v1, t5, ys, n, rfl, rfl, iy⟩ := hJ0
    (wtm_at "pu")
    have e : ks.toArray.size = ps.length := by rw [List.size_toArray, hks]
    rw [e] at iy
    exact ⟨rfl, hq _ _ _ _ _ _ F iy⟩
end
section
variable {w : World} {A : Around} {E : Value → Shared → Prop} {h₀ hb h h' : Heap} {g : Array GenState} {d : Drawn} {t tk : Nat} {os : OsState} {L S T CL D H rd c' a b c TL BL : Addr} {mg mb : Str → Option Value} {mean : ExcName → Option Value} {ns cns : List Str} {vs : List (Option Value)} {news rest : List (Addr × Obj)} {l m f : List UInt8} {n n2 cnt : Nat}
  {env : Env} {pos : Pos} {s : Shared} {x : Str} {v : Value} {i j : Int} {u : Tok} {xs ys zs ks : List Value} {js : List Int} {o1 o2 o3 o4 o7 oS oT oC oc : Obj} {kvs : List (Str × Value)} {ps : List Tb} {v0 v1 v2 v3 v4 v5 v6 v7 : Option Value} {vl : List (Option Value)} {fs : List (Str × Str × Int)} {doc pm ctv : Value} {fl : Array Value}
structure SrcN (L S CL : Addr) (xs : List Value) (js : List Int) (rest : List (Addr × Obj)) : Prop where
  cell : ∃ o1, (L + 1, o1) ∈ rest ∧ o1.data = .cell (some (.ref S))
  cells : ∃ oC, (CL, oC) ∈ rest ∧ IsL oC xs
  nums : IntsAre xs js
  some_ : 0 < js.length
  few : js.length ≤ 100
theorem SrcN.mono {L S CL : Addr} {xs : List Value} {js : List Int} {rest rest' : List (Addr × Obj)} (s : SrcN L S CL xs js rest) (k : ∀ p ∈ rest, p ∈ rest') : SrcN L S CL xs js rest' :=
  ⟨let ⟨o, a, b⟩ := s.cell; ⟨o, k _ a, b⟩, let ⟨o, a, b⟩ := s.cells; ⟨o, k _ a, b⟩, s.nums, s.some_, s.few⟩
theorem drawN {at_ lim : Int} {ta tl : Tok} {Q : Value → Shared → Prop} (W : Wd w mg mb mean h₀) (R : Rm 3 A) (F : Fm h₀ L ns vs ((S, oS) :: rest) h) (hS : IsL oS [.ref CL, .int at_ ta]) (ha : 0 ≤ at_) (sn : SrcN a S CL xs js rest) (hlim : 0 < lim)
    (hq : ∀ h' k tr oS' t' tk', 0 ≤ k → k < lim → IsL oS' [.ref CL, .int (at_ + 1) t'] → Fm h₀ L ns vs ((S, oS') :: rest) h' → Q (.int k tr) ⟨h', g, d, tk', os⟩) : wpAny (Mo w) A (call (.ref 580) [.ref S, .int lim tl]) Q E ⟨h, g, d, tk, os⟩ := by
  (wtm_at "pc")
  obtain ⟨oC, mC, hC⟩ := sn.cells
  (wtm_at "pu")
  exact draw_c W R F hS (hC.at F (.tail _ mC)) sn.nums sn.some_ sn.few ha hlim hq
theorem law14 {at_ : Int} {ta : Tok} {K : Shared → Prop} (W : Wd w mg mb mean h₀) (R : Rm 4 A) (F : Fm h₀ L lawNs (v0 :: v1 :: v2 :: v3 :: v4 :: v5 :: none :: vl) ((S, oS) :: rest) h) (hS : IsL oS [.ref CL, .int at_ ta]) (ha : 0 ≤ at_) (sn : SrcN L S CL xs js rest)
    (m3 : (L + 3, o3) ∈ rest) (c3 : o3.data = .cell (some (.ref TL))) (mL : (TL, lsO ks n) ∈ rest) (hk0 : 0 < ks.length) (hk : ks.length ≤ 10)
    (hq : ∀ h' oS t2 k t tk', k < ks.length → Fm h₀ L lawNs (v0 :: v1 :: v2 :: v3 :: v4 :: v5 :: some (.int (k : Nat) t) :: vl) ((S, oS) :: rest) h' → IsL oS [.ref CL, .int (at_ + 1) t2] → K ⟨h', g, d, tk', os⟩) :
    wpAny (Mo w) A (exec (lawSt 14) (envLaw L)) (fun f s' => f = .next ∧ K s') (fun _ _ => False) ⟨h, g, d, tk, os⟩ := by
  have Y := (df_law w).fi
  (wtm_at "pc")
  obtain ⟨q1, q2, q3, q4, q5, q6, q7⟩ := lk L
  (wtm_at "pu")
  (wtm_at "pc")
  obtain ⟨o1, m1, c1⟩ := sn.cell
  (wtm_at "pu")
  refine wpAny_Assign_Name ?_
  repeat (wtm_at "ev")
  refine r_lenL (Ls.of (F.get (.tail _ mL))) (by lia) ?_
  repeat (wtm_at "ev")
  refine drawN W R.le F hS ha sn (by lia) fun h' k tr oS' t' tk' k0 k1 hS' F => ?_
  obtain ⟨k, rfl⟩ := Int.eq_ofNat_of_zero_le k0
  repeat (wtm_at "ev")
  exact ⟨rfl, hq _ oS' t' k _ _ (by lia) F hS'⟩
theorem law15 {k : Nat} {tn : Tok} {K : Shared → Prop} (W : Wd w mg mb mean h₀) (F : Fm h₀ L lawNs (v0 :: v1 :: v2 :: v3 :: v4 :: v5 :: some (.int (k : Nat) tn) :: vl) rest h) (m3 : (L + 3, o3) ∈ rest) (c3 : o3.data = .cell (some (.ref TL))) (mL : (TL, lsO ks n) ∈ rest)
    (sk : Strs ks (ps.map (·.1))) (h10 : ks.length ≤ 10) (hk : k < ps.length)
    (hq : ∀ h' t tk', Fm h₀ L lawNs (v0 :: some (.str ps[k].1 t) :: v2 :: v3 :: v4 :: v5 :: some (.int (k : Nat) tn) :: vl) rest h' → K ⟨h', g, d, tk', os⟩) :
    wpAny (Mo w) A (exec (lawSt 15) (envLaw L)) (fun f s' => f = .next ∧ K s') (fun _ _ => False) ⟨h, g, d, tk, os⟩ := by
  have Y := (df_law w).fi
  (wtm_at "pc")
  obtain ⟨q1, q2, q3, q4, q5, q6, q7⟩ := lk L
  (wtm_at "pu")
  have hkk : k < ks.length := by rw [sk.len, List.length_map]; exact hk
  obtain ⟨tt, e⟩ := sk.at_ k ks[k] ps[k].1 (List.getElem?_eq_getElem hkk) (by rw [List.getElem?_map, List.getElem?_eq_getElem hk]; rfl)
  refine wpAny_Assign_Name ?_
  repeat (wtm_at "ev")
  refine r_itemL (Ls.of (F.get mL)) (by lia) (by lia) (by rw [Int.toNat_natCast, List.getElem?_eq_getElem hkk, e]) ?_
  repeat (wtm_at "ev")
  exact ⟨rfl, hq _ _ _ F⟩
theorem law16 {k : Nat} {tg : Tok} {K : Shared → Prop} (W : Wd w mg mb mean h₀) (hk : k < ps.length) (F : Fm h₀ L lawNs (v0 :: some (.str ps[k].1 tg) :: v2 :: v3 :: v4 :: v5 :: v6 :: none :: vl) rest h) (m2 : (L + 2, o2) ∈ rest) (c2 : o2.data = .cell (some (.ref T))) (mT : (T, oT) ∈ rest) (hT : oT.IsDictOf (kS w) kvs) (lo : (T == sysModules) = false) (by_ : Bys kvs ps) (ok : TbOk ps)
    (hq : ∀ h' t tk', Fm h₀ L lawNs (v0 :: some (.str ps[k].1 tg) :: v2 :: v3 :: v4 :: v5 :: v6 :: some (.int (ps[k].2.length : Nat) t) :: vl) rest h' → K ⟨h', g, d, tk', os⟩) :
    wpAny (Mo w) A (exec (lawSt 16) (envLaw L)) (fun f s' => f = .next ∧ K s') (fun _ _ => False) ⟨h, g, d, tk, os⟩ := by
  have Y := (df_law w).fi
  (wtm_at "pc")
  obtain ⟨q1, q2, q3, q4, q5, q6, q7⟩ := lk L
  (wtm_at "pu")
  have dk := Dk.led F mT hT lo
  have lenp := ok.len _ (List.getElem_mem hk)
  obtain ⟨tv, hv⟩ := by_.valueAt (by rw [← by_.keys]; exact dk.nodup) (k := ps[k].1) (l := ps[k].2) (List.getElem_mem hk)
  refine wpAny_Assign_Name ?_
  repeat (wtm_at "ev")
  refine r_itemD (Dk.led F mT hT lo) hv ?_
  repeat (wtm_at "ev")
  exact ⟨rfl, hq _ _ _ F⟩
end
noncomputable def Ch (ps : List Tb) (b0 k spot : Nat) (told : Bool) : Prop := ∃ h : k < ps.length, (told = true ∧ ∃ j, j < 4 ∧ spot = 12 + 16 * k + 4 + j) ∨
  ∃ ins, ins < ps[k].2.length + pad ps[k].2.length ∧ spot = endFrom b0 (ps.take k) + ins ∧ told = (decide (ins < ps[k].2.length) && !(decide (ps[k].1 = "head") && (decide (12 ≤ ps[k].2.length) && (decide (8 ≤ ins) && decide (ins < 12)))))
section
variable {w : World} {A : Around} {E : Value → Shared → Prop} {h₀ hb h h' : Heap} {g : Array GenState} {d : Drawn} {t tk : Nat} {os : OsState} {L S T CL D H rd c' a b c TL BL : Addr} {mg mb : Str → Option Value} {mean : ExcName → Option Value} {ns cns : List Str} {vs : List (Option Value)} {news rest : List (Addr × Obj)} {l m f : List UInt8} {n n2 cnt : Nat}
  {env : Env} {pos : Pos} {s : Shared} {x : Str} {v : Value} {i j : Int} {u : Tok} {xs ys zs ks : List Value} {js : List Int} {o1 o2 o3 o4 o7 oS oT oC oc : Obj} {kvs : List (Str × Value)} {ps : List Tb} {v0 v1 v2 v3 v4 v5 v6 v7 : Option Value} {vl : List (Option Value)} {fs : List (Str × Str × Int)} {doc pm ctv : Value} {fl : Array Value}
theorem r_notB {b : Bool} {Q : Value → Shared → Prop} (hq : Q (.bool (!b)) ⟨h, g, d, tk, os⟩) : wpAny (Mo w) A (unaryOp .Not (.bool b)) Q E ⟨h, g, d, tk, os⟩ := by
  exact not_of (wpAny_truthy_bool hq)
theorem law17 {k b0 : Nat} {at_ : Int} {ta tg tn tz : Tok} {K : Shared → Prop} (W : Wd w mg mb mean h₀) (R : Rm 4 A) (hk : k < ps.length) (ok : TbOk ps) (F : Fm h₀ L lawNs [v0, some (.str ps[k].1 tg), v2, v3, v4, v5, some (.int (k : Nat) tn), some (.int (ps[k].2.length : Nat) tz), none, none, none] ((S, oS) :: rest) h)
    (hS : IsL oS [.ref CL, .int at_ ta]) (ha : 0 ≤ at_) (sn : SrcN L S CL xs js rest) (m4 : (L + 4, o4) ∈ rest) (c4 : o4.data = .cell (some (.ref BL))) (mB : (BL, lsO ys n) ∈ rest) (iy : IntsAre ys (begs b0 ps ps.length))
    (hq : ∀ h' oS t2 a2 spot told ts v10 tk', Fm h₀ L lawNs [v0, some (.str ps[k].1 tg), v2, v3, v4, v5, some (.int (k : Nat) tn), some (.int (ps[k].2.length : Nat) tz), some (.int (spot : Nat) ts), some (.bool told), v10] ((S, oS) :: rest) h' → IsL oS [.ref CL, .int a2 t2] → 0 ≤ a2 → Ch ps b0 k spot told → K ⟨h', g, d, tk', os⟩) :
    wpAny (Mo w) A (exec (lawSt 17) (envLaw L)) (fun f s' => f = .next ∧ K s') (fun _ _ => False) ⟨h, g, d, tk, os⟩ := by
  have Y := (df_law w).fi
  (wtm_at "pc")
  obtain ⟨q1, q2, q3, q4, q5, q6, q7⟩ := lk L
  (wtm_at "pu")
  (wtm_at "pc")
  obtain ⟨o1, m1, c1⟩ := sn.cell
  (wtm_at "pu")
  have lenp := ok.len _ (List.getElem_mem hk)
  refine wpAny_If ?_
  refine wpAny_mono (Q := fun b s' => ∃ oS' t' h' tk', s' = ⟨h', g, d, tk', os⟩ ∧ Fm h₀ L lawNs [v0, some (.str ps[k].1 tg), v2, v3, v4, v5, some (.int (k : Nat) tn), some (.int (ps[k].2.length : Nat) tz), none, none, none] ((S, oS') :: rest) h' ∧ IsL oS' [.ref CL, .int (at_ + 1) t'] ∧ (b = false → 0 < ps[k].2.length)) (E := fun _ _ => False) ?_ (fun b s' q => ?_) fun _ _ x => x
  · (wtm_at "ct")
    repeat (wtm_at "ev")
    refine drawN (lim := 3) W R.le F hS ha sn (by decide) fun h' kd tr oS' t' tk' k0 k1 hS' F => ?_
    repeat (wtm_at "ev")
    refine r_if (fun c => ?_) fun c => ?_
    · exact ⟨_, _, _, _, rfl, F, hS', fun h => nomatch h⟩
    repeat (wtm_at "ev")
    refine r_if (fun c => ?_) fun c => ?_
    · repeat (wtm_at "ev")
      exact ⟨_, _, _, _, rfl, F, hS', fun h => nomatch h⟩
    · repeat (wtm_at "ev")
      refine ⟨_, _, _, _, rfl, F, hS', fun _ => ?_⟩
      rcases Nat.eq_zero_or_pos ps[k].2.length with z | z
      · exact absurd (by rw [z]; rfl) c
      · exact z
  clear hS
  (wtm_at "pc")
  obtain ⟨oS', t', h', tk', rfl, F, hS, hb⟩ := q
  (wtm_at "pu")
  cases b with
  | true =>
    refine r_ifT rfl ?_
    refine wpAny_execs_cons ?_
    repeat (wtm_at "ev")
    refine drawN (lim := 4) W R.le F hS (by lia) sn (by decide) fun h' kd tr oS' t' tk' k0 k1 hS' F => ?_
    repeat (wtm_at "ev")
    have e : (12 + 16 * ((k : Nat) : Int) + 4 + kd) = ((12 + 16 * k + 4 + kd.toNat : Nat) : Int) := by lia
    rw [e] at F
    exact ⟨rfl, hq _ _ _ _ _ _ _ _ _ F hS' (by lia) ⟨hk, .inl ⟨rfl, kd.toNat, by lia, rfl⟩⟩⟩
  | false =>
    refine r_ifF Bool.false_ne_true ?_
    have hpos := hb rfl
    refine wpAny_execs_cons ?_
    repeat (wtm_at "ev")
    refine drawN (lim := ((ps[k].2.length : Nat) : Int) + (-((ps[k].2.length : Nat) : Int)).fmod 4) W R.le F hS (by lia) sn (by rw [pad_fmod]; lia) fun h' kd tr oS' t' tk' k0 k1 hS' F => ?_
    rw [pad_fmod] at k1
    obtain ⟨ins, rfl⟩ := Int.eq_ofNat_of_zero_le k0
    repeat (wtm_at "ev")
    have hyl : ys.length = ps.length := by rw [iy.length]; simp [begs]
    (wtm_at "pc")
    obtain ⟨bb, tb, eb, ez⟩ := ints_at iy (i := k) (List.getElem?_eq_getElem (by lia))
    (wtm_at "pu")
    have hbb : bb = ((endFrom b0 (ps.take k) : Nat) : Int) := by
      unfold begs at eb
      rw [List.getElem?_map, List.getElem?_range hk] at eb
      cases eb; rfl
    refine r_itemL (Ls.of (F.get (.tail _ mB))) (by lia) (by have := ok.six; lia) (by rw [Int.toNat_natCast, List.getElem?_eq_getElem (by lia), ez]) ?_
    repeat (wtm_at "ev")
    rw [hbb] at F
    rw [show ((endFrom b0 (ps.take k) : Nat) : Int) + ((ins : Nat) : Int) = ((endFrom b0 (ps.take k) + ins : Nat) : Int) from (Int.natCast_add _ _).symm] at F
    refine r_if (fun cA => ?_) fun cA => ?_
    · have cA : ins < ps[k].2.length := by have := of_decide_eq_true cA; lia
      repeat (wtm_at "ev")
      refine r_if (fun cB => ?_) fun cB => ?_
      · have cB := of_decide_eq_true cB
        repeat (wtm_at "ev")
        refine r_if (fun cC => ?_) fun cC => ?_
        · have cC : 12 ≤ ps[k].2.length := by simp at cC; lia
          repeat (wtm_at "ev")
          refine PyProof.Rows.Compare_chain ?_
          repeat (wtm_at "ev")
          refine PyProof.Rows.chain_link ?_
          repeat (wtm_at "ev")
          refine r_if (fun cD => ?_) fun cD => ?_
          · have cD : 8 ≤ ins := by simp at cD; lia
            refine PyProof.Rows.chain_last ?_
            repeat (wtm_at "ev")
            refine r_notB ?_
            repeat (wtm_at "ev")
            exact ⟨rfl, hq _ _ _ _ _ _ _ _ _ F hS' (by lia) ⟨hk, .inr ⟨ins, by lia, rfl, by simp [cA, cB, cC, cD]; try lia⟩⟩⟩
          · have cD : ¬ 8 ≤ ins := by simp at cD; lia
            repeat (wtm_at "ev")
            refine r_notB ?_
            repeat (wtm_at "ev")
            exact ⟨rfl, hq _ _ _ _ _ _ _ _ _ F hS' (by lia) ⟨hk, .inr ⟨ins, by lia, rfl, by simp [cA, cB, cC, cD]; try lia⟩⟩⟩
        · have cC : ¬ 12 ≤ ps[k].2.length := by simp at cC; lia
          repeat (wtm_at "ev")
          refine r_notB ?_
          repeat (wtm_at "ev")
          exact ⟨rfl, hq _ _ _ _ _ _ _ _ _ F hS' (by lia) ⟨hk, .inr ⟨ins, by lia, rfl, by simp [cA, cB, cC]; try lia⟩⟩⟩
      · have cB := of_decide_eq_false (Bool.eq_false_iff.mpr cB)
        repeat (wtm_at "ev")
        refine r_notB ?_
        repeat (wtm_at "ev")
        exact ⟨rfl, hq _ _ _ _ _ _ _ _ _ F hS' (by lia) ⟨hk, .inr ⟨ins, by lia, rfl, by simp [cA, cB]; try lia⟩⟩⟩
    · have cA : ¬ ins < ps[k].2.length := by have := of_decide_eq_false (Bool.eq_false_iff.mpr cA); lia
      repeat (wtm_at "ev")
      exact ⟨rfl, hq _ _ _ _ _ _ _ _ _ F hS' (by lia) ⟨hk, .inr ⟨ins, by lia, rfl, by simp [cA]⟩⟩⟩
end
noncomputable def turnL (f : List UInt8) (sp : Nat) (b : UInt8) : List UInt8 := f.take sp ++ [b] ++ f.drop (sp + 1)
theorem turned_ne {x : UInt8} {k : Int} (h0 : 0 ≤ k) (h1 : k < 255) : ((((x.toNat : Nat) : Int) + 1 + k).fmod 256).toNat.toUInt8 ≠ x := fun e => by
  have hx := x.toNat_lt
  have e2 := congrArg UInt8.toNat e
  rw [Int.fmod_eq_emod_of_nonneg _ (by decide)] at e2
  have e3 : (((((x.toNat : Nat) : Int) + 1 + k) % 256).toNat.toUInt8).toNat = ((((x.toNat : Nat) : Int) + 1 + k) % 256).toNat % 256 := rfl
  rw [e3] at e2
  lia
section
variable {w : World} {A : Around} {E : Value → Shared → Prop} {h₀ hb h h' : Heap} {g : Array GenState} {d : Drawn} {t tk : Nat} {os : OsState} {L S T CL D H rd c' a b c TL BL : Addr} {mg mb : Str → Option Value} {mean : ExcName → Option Value} {ns cns : List Str} {vs : List (Option Value)} {news rest : List (Addr × Obj)} {l m f : List UInt8} {n n2 cnt : Nat}
  {env : Env} {pos : Pos} {s : Shared} {x : Str} {v : Value} {i j : Int} {u : Tok} {xs ys zs ks : List Value} {js : List Int} {o1 o2 o3 o4 o5 o7 oS oT oC oc : Obj} {kvs : List (Str × Value)} {ps : List Tb} {v0 v1 v2 v3 v4 v5 v6 v7 : Option Value} {vl : List (Option Value)} {fs : List (Str × Str × Int)} {doc pm ctv : Value} {fl : Array Value}
theorem law18 {sp : Nat} {at_ : Int} {ta td ts : Tok} {K : Shared → Prop} (W : Wd w mg mb mean h₀) (R : Rm 4 A) (hh : A.handled = none) (F : Fm h₀ L lawNs (v0 :: v1 :: v2 :: v3 :: some (.bytes f.toArray td) :: v5 :: v6 :: v7 :: some (.int (sp : Nat) ts) :: vl) ((S, oS) :: (L + 5, o5) :: rest) h)
    (hS : IsL oS [.ref CL, .int at_ ta]) (ha : 0 ≤ at_) (sn : SrcN L S CL xs js rest) (ho : o5.data = .cell none) (hsp : sp < f.length) (hf : f.length ≤ 1000)
    (hq : ∀ h' oS t2 o5 nb t tk', Fm h₀ L lawNs (v0 :: v1 :: v2 :: v3 :: some (.bytes f.toArray td) :: v5 :: v6 :: v7 :: some (.int (sp : Nat) ts) :: vl) ((S, oS) :: (L + 5, o5) :: rest) h' → IsL oS [.ref CL, .int (at_ + 1) t2] → o5.data = .cell (some (.bytes (turnL f sp nb).toArray t)) → nb ≠ f.getD sp 0 → K ⟨h', g, d, tk', os⟩) :
    wpAny (Mo w) A (exec (lawSt 18) (envLaw L)) (fun f s' => f = .next ∧ K s') (fun _ _ => False) ⟨h, g, d, tk, os⟩ := by
  have Y := (df_law w).fi
  (wtm_at "pc")
  obtain ⟨q1, q2, q3, q4, q5, q6, q7⟩ := lk L
  (wtm_at "pu")
  (wtm_at "pc")
  obtain ⟨o1, m1, c1⟩ := sn.cell
  (wtm_at "pu")
  refine wpAny_Assign_Name ?_
  repeat (wtm_at "ev")
  refine r_itemB (by lia) (by lia) (by lia) ?_
  repeat (wtm_at "ev")
  refine drawN (lim := 255) W R.le F hS ha (sn.mono fun p hp => .tail _ hp) (by decide) fun h' kd tr oS' t' tk' k0 k1 hS' F => ?_
  repeat (wtm_at "ev")
  have hr0 := Int.fmod_nonneg_of_pos (((f.getD ((sp : Nat) : Int).toNat 0).toNat : Nat) + 1 + kd) (b := 256) (by decide)
  have hr1 := Int.fmod_lt_of_pos (((f.getD ((sp : Nat) : Int).toNat 0).toNat : Nat) + 1 + kd) (b := 256) (by decide)
  refine call_bytes_ints (l := a) ⟨_, F.get (.head _), rfl, _, rfl⟩ (.cons _ _ .nil) (fun m hm => ?_) (by rw [sizeLine_eq]; simp) hh fun h' tb k kx => ?_
  · obtain rfl := List.mem_singleton.mp hm
    exact ⟨hr0, hr1⟩
  have F := F.ext kx
  obtain ⟨nb, hnb⟩ : ∃ nb, nb = (((((f.getD ((sp : Nat) : Int).toNat 0).toNat : Nat) : Int) + 1 + kd).fmod 256).toNat.toUInt8 := ⟨_, rfl⟩
  rw [show byteArr [((((f.getD ((sp : Nat) : Int).toNat 0).toNat : Nat) : Int) + 1 + kd).fmod 256] = [nb].toArray by rw [hnb]; rfl]
  repeat (wtm_at "ev")
  have F := (F.drop (List.sublist_cons_self _ _)).perm (news' := (L + 5, o5) :: (S, oS') :: rest) (.swap ..)
  rw [show (List.take ((sp : Nat) : Int).toNat f ++ [nb] ++ List.drop (((sp : Nat) : Int) + 1).toNat f) = turnL f sp nb by unfold turnL; rw [Int.toNat_natCast, show (((sp : Nat) : Int) + 1).toNat = sp + 1 by lia]]
  refine r_stC (c := L + 5) En.fnC Y (by wtm_at "mem") (by kernel_rfl) F ho fun h' o5' F ho' => ?_
  refine ⟨rfl, hq _ oS' _ o5' nb _ _ (F.perm (.swap ..)) hS' ho' ?_⟩
  rw [hnb, Int.toNat_natCast]
  exact turned_ne k0 k1
end
section
variable {w : World} {A : Around} {E : Value → Shared → Prop} {h₀ hb h h' : Heap} {g : Array GenState} {d : Drawn} {t tk : Nat} {os : OsState} {L S T CL D H rd c' a b c TL BL : Addr} {mg mb : Str → Option Value} {mean : ExcName → Option Value} {ns cns : List Str} {vs : List (Option Value)} {news rest : List (Addr × Obj)} {l m f : List UInt8} {n n2 cnt : Nat}
  {env : Env} {pos : Pos} {s : Shared} {x : Str} {v : Value} {i j : Int} {u : Tok} {xs ys zs ks : List Value} {js : List Int} {o1 o2 o3 o4 o5 o7 oS oT oC oc : Obj} {kvs : List (Str × Value)} {ps : List Tb} {v0 v1 v2 v3 v4 v5 v6 v7 v8 v9 : Option Value} {vl : List (Option Value)} {fs : List (Str × Str × Int)} {doc pm ctv : Value} {fl : Array Value}
theorem r_callBM0 {Q : Value → Shared → Prop} {o : PySem.Expr} {nm : Str} {apos : Pos}
    (h : wpAny (Mo w) A (eval o env) (fun ov s₁ => BMeth w A nm (fun id => wpAny (Mo w) A (call (.builtin id) [ov]) Q E s₁) ov s₁) E s)
    (he : eval (.Call (.Attribute o nm apos) [] [] pos) env = (do
      let ov ← eval o env
      standAt apos.atName
      let (f, first) ← holding [ov] (getMethod ov nm pl)
      callWith pos f first (backTo pos (starEach [] env)) (backToKw pos (keywordEach [] env))) := by rfl) :
    wpAny (Mo w) A (eval (.Call (.Attribute o nm apos) [] [] pos) env) Q E s := by
  refine methodCall_KW (wpAny_mono h (fun ov s₁ q => ?_) fun _ _ x => x) he
  (wtm_at "pc")
  obtain ⟨id, hm, q⟩ := q
  (wtm_at "pu")
  refine hm _ _ _ ?_
  show wpAny _ _ (callWith pos (.builtin id) [ov] (backTo pos (starEach [] env)) []) _ _ _
  exact Calls.callWith_builtin (by rfl) (evalArgs_nil3 q)
theorem law19 {K : Shared → Prop} (W : Wd w mg mb mean h₀) (F : Fm h₀ L lawNs vl ((H, lsO zs n) :: rest) h) (m7 : (L + 7, o7) ∈ rest) (c7 : o7.data = .cell (some (.ref H))) (hz : zs.length ≤ 1000)
    (hq : ∀ h' n tk', Fm h₀ L lawNs vl ((H, lsO [] n) :: rest) h' → K ⟨h', g, d, tk', os⟩) :
    wpAny (Mo w) A (exec (lawSt 19) (envLaw L)) (fun f s' => f = .next ∧ K s') (fun _ _ => False) ⟨h, g, d, tk, os⟩ := by
  have Y := (df_law w).fi
  (wtm_at "pc")
  obtain ⟨q1, q2, q3, q4, q5, q6, q7⟩ := lk L
  (wtm_at "pu")
  refine wpAny_Expr ?_
  refine r_callBM0 ?_
  repeat (wtm_at "ev")
  refine BMeth.clear (F.get (.head _)) ?_
  refine r_clear F (by lia) fun h' n' F => ?_
  exact ⟨rfl, hq _ _ _ F⟩
theorem TupN.cons1 {news : List (Addr × Obj)} {x : Addr} {a b : Str} {c : Int} {t1 t2 t3 : Tok} (m : (x, tpO [.str a t1, .str b t2, .int c t3]) ∈ news) : TupN news [.ref x] [(a, b, c)] := TupN.snoc TupN.nil m
theorem TupN.append {news : List (Addr × Obj)} {ys ys' : List Value} {fs fs' : List (Str × Str × Int)} (a : TupN news ys fs) (b : TupN news ys' fs') : TupN news (ys ++ ys') (fs ++ fs') := by
  refine ⟨by simp [a.len, b.len], fun i v f e1 e2 => ?_⟩
  by_cases q : i < ys.length
  · rw [List.getElem?_append_left q] at e1
    rw [List.getElem?_append_left (by rw [← a.len]; exact q)] at e2
    exact a.at_ i v f e1 e2
  · rw [List.getElem?_append_right (by lia)] at e1
    rw [List.getElem?_append_right (by rw [← a.len]; lia), ← a.len] at e2
    exact b.at_ _ v f e1 e2
noncomputable def sumT (told : Bool) (tag : Str) : List (Str × Str × Int) := if told = true then [(tag, "sum", -1)] else []
theorem ite_joinV {M : Model} {P : Prop} [Decidable P] {m1 m2 : Sem Value} {K : Value → Shared → Prop} (Q : Value → Shared → Prop) (h1 : P → wpAny M A m1 Q E s) (h2 : ¬ P → wpAny M A m2 Q E s) (hk : ∀ f s', Q f s' → K f s') :
    if P then wpAny M A m1 K E s else wpAny M A m2 K E s := by
  split
  · rename_i c; exact wpAny_mono (h1 c) hk fun _ _ x => x
  · rename_i c; exact wpAny_mono (h2 c) hk fun _ _ x => x
theorem law20 {told : Bool} {tag : Str} {tt tz : Tok} {K : Shared → Prop} (W : Wd w mg mb mean h₀) (R : Rm 16 A) (hh : A.handled = none) (hA : A.frames = some [envLaw L])
    (F : Fm h₀ L lawNs (v0 :: some (.str tag tt) :: some (.ref rd) :: some (.ref D) :: v4 :: v5 :: v6 :: v7 :: v8 :: some (.bool told) :: vl) ((H, lsO [] n) :: rest) h) (m5 : (L + 5, o5) ∈ rest) (c5 : o5.data = .cell (some (.bytes f.toArray tz)))
    (r : RdN L rd H rest) (mD : (D, lsO ys n2) ∈ rest) (tn : TupN rest ys fs) (G : Good f cnt) (hmiss : ("hhea" : Str) ∉ (tabsOf f cnt).map (·.1)) (efs : (wrongs f (recsD f cnt)).map sumF ++ findingsOf (tabsOf f cnt) = sumT told tag ++ fs) (hfs : fs.length ≤ 50)
    (hq : ∀ h' zs' n' more tk', zs'.length ≤ 10 → Fm h₀ L lawNs (v0 :: some (.str tag tt) :: some (.ref rd) :: some (.ref D) :: v4 :: v5 :: v6 :: v7 :: v8 :: some (.bool told) :: vl) ((H, lsO zs' n') :: (more ++ rest)) h' → Cps w more zs' (tabsOf f cnt) → K ⟨h', g, d, tk', os⟩) :
    wpAny (Mo w) A (exec (lawSt 20) (envLaw L)) (fun f s' => f = .next ∧ K s') (fun _ _ => False) ⟨h, g, d, tk, os⟩ := by
  have Y := (df_law w).fi
  (wtm_at "pc")
  obtain ⟨q1, q2, q3, q4, q5, q6, q7⟩ := lk L
  (wtm_at "pu")
  have hyl := tn.len
  refine wpAny_If ?_
  repeat (wtm_at "ev")
  refine check_file_c (frs := []) (rest := rest) W F R.le hh hA rfl rfl .nil (r.at_ F) G (by simp) hmiss fun h' frs' zs' n' more D' ys' m' tk' sl F mD' cp hz' fn => ?_
  cases sl
  rw [efs] at fn
  have F : Fm h₀ L lawNs (v0 :: some (.str tag tt) :: some (.ref rd) :: some (.ref D) :: v4 :: v5 :: v6 :: v7 :: v8 :: some (.bool told) :: vl) ((H, lsO zs' n') :: (more ++ rest)) h' := F
  have hsl : (sumT told tag).length ≤ 1 := by unfold sumT; split <;> simp
  refine told_comp En.fnC (Fi.of (by kernel_rfl)) (by decide +kernel) rfl W R.le hh (fun C => ⟨_, rfl⟩) F (.tail _ (List.mem_append_left _ mD')) (fn.mono fun p hp => .tail _ (List.mem_append_left _ hp)) (by rw [List.length_append]; lia) fun D2 ws n3 more2 h2 tk2 F tw => ?_
  repeat (wtm_at "ev")
  have mD2 : (D, lsO ys n2) ∈ (D2, lsO ws n3) :: (more2 ++ (H, lsO zs' n') :: (more ++ rest)) := .tail _ (List.mem_append_right _ (.tail _ (List.mem_append_right _ mD)))
  have tn2 := tn.mono (news' := (D2, lsO ws n3) :: (more2 ++ (H, lsO zs' n') :: (more ++ rest))) fun p hp => .tail _ (List.mem_append_right _ (.tail _ (List.mem_append_right _ hp)))
  have tw2 := tw.mono (news' := (D2, lsO ws n3) :: (more2 ++ (H, lsO zs' n') :: (more ++ rest))) fun p hp => .tail _ (List.mem_append_left _ hp)
  obtain ⟨NN, hNN⟩ : ∃ NN, NN = (D2, lsO ws n3) :: (more2 ++ (H, lsO zs' n') :: (more ++ rest)) := ⟨_, rfl⟩
  have mW : (D2, lsO ws n3) ∈ NN := by rw [hNN]; exact .head _
  rw [← hNN] at F mD2 tn2 tw2
  refine ite_joinV (fun v s' => ∃ Z us nu m3 h' tk', v = .ref Z ∧ s' = ⟨h', g, d, tk', os⟩ ∧ Fm h₀ L lawNs (v0 :: some (.str tag tt) :: some (.ref rd) :: some (.ref D) :: v4 :: v5 :: v6 :: v7 :: v8 :: some (.bool told) :: vl) ((Z, lsO us nu) :: (m3 ++ NN)) h' ∧ TupN m3 us (sumT told tag)) (fun c => ?_) (fun c => ?_) (fun v s' q => ?_)
  · (wtm_at "ct")
    repeat (wtm_at "ev")
    obtain ⟨z, t2, t3, h1, FT, F, Ia, kx⟩ : ∃ z t2 t3 h1, Fm h₀ L lawNs (v0 :: some (.str tag tt) :: some (.ref rd) :: some (.ref D) :: v4 :: v5 :: v6 :: v7 :: v8 :: some (.bool told) :: vl) ((z, tpO [.str tag tt, .str "sum" t2, .int (-1) t3]) :: NN) h1 ∧
      Fm h₀ L lawNs (v0 :: some (.str tag tt) :: some (.ref rd) :: some (.ref D) :: v4 :: v5 :: v6 :: v7 :: v8 :: some (.bool told) :: vl) ((a, lsO [.ref z] 0) :: NN) h ∧ h1.get? z = some (tpO [.str tag tt, .str "sum" t2, .int (-1) t3]) ∧ Ext h1 h := ⟨_, _, _, _, FT, F, Ia, kx⟩
    have P := FT.led _ (.head _)
    have nd := FT.nd
    rw [List.map_cons, List.nodup_cons] at nd
    have F := F.add (kx _ _ Ia) P.2.1 P.2.2 (fun q => by
      rcases List.mem_cons.mp q with q | q
      · have e1 := kx _ _ Ia
        rw [q, F.get (.head _)] at e1
        have := congrArg (Option.map Obj.cls) e1; simp at this
      · exact nd.1 q)
    refine ⟨a, [.ref z], 0, [(z, tpO [.str tag tt, .str "sum" t2, .int (-1) t3])], _, _, rfl, rfl, F.perm (.swap ..), ?_⟩
    rw [sumT, if_pos c]
    exact TupN.cons1 (.head _)
  · repeat (wtm_at "ev")
    refine ⟨_, [], 0, [], _, _, rfl, rfl, F, ?_⟩
    rw [sumT, if_neg c]
    exact TupN.nil
  (wtm_at "pc")
  obtain ⟨Z, us, nu, m3, h4, tk4, rfl, rfl, F, tu⟩ := q
  (wtm_at "pu")
  have hul : us.length ≤ 1 := by rw [tu.len]; exact hsl
  repeat (wtm_at "ev")
  refine r_addL F (Ls.of (F.get (.head _))) (Ls.of (F.get (.tail _ (List.mem_append_right _ mD2)))) (by lia) fun y h' F => ?_
  repeat (wtm_at "ev")
  refine ne_tups F (.tail _ (.tail _ (List.mem_append_right _ mW))) (.head _) (tw2.mono fun p hp => .tail _ (.tail _ (List.mem_append_right _ hp))) ((tu.mono fun p hp => .tail _ (.tail _ (List.mem_append_left _ hp))).append (tn2.mono fun p hp => .tail _ (.tail _ (List.mem_append_right _ hp)))) R.le ?_
  repeat (wtm_at "ev")
  refine ⟨rfl, hq _ zs' n' more _ hz' (F.drop ?_) cp⟩
  refine .cons _ (.cons _ (List.sublist_append_of_sublist_right ?_))
  rw [hNN]
  exact .cons _ (List.sublist_append_right _ _)
end
noncomputable def keptL (f : List UInt8) (b0 : Nat) (ps : List Tb) (i : Nat) : List Tb := (List.range i).map fun j => ((ps.getD j ("", [])).1, (f.drop (endFrom b0 (ps.take j))).take (ps.getD j ("", [])).2.length)
section
variable {w : World} {A : Around} {E : Value → Shared → Prop} {h₀ hb h h' : Heap} {g : Array GenState} {d : Drawn} {t tk : Nat} {os : OsState} {L S T CL D H rd c' a b c TL BL : Addr} {mg mb : Str → Option Value} {mean : ExcName → Option Value} {ns cns : List Str} {vs : List (Option Value)} {news rest : List (Addr × Obj)} {l m f : List UInt8} {n n2 cnt : Nat}
  {env : Env} {pos : Pos} {s : Shared} {x : Str} {v : Value} {i j : Int} {u : Tok} {xs ys zs ks : List Value} {js : List Int} {o1 o2 o3 o4 o5 o6 o7 oS oT oC oc : Obj} {kvs : List (Str × Value)} {ps : List Tb} {v0 v1 v2 v3 v4 v5 v6 v7 v8 v9 : Option Value} {vl : List (Option Value)} {fs : List (Str × Str × Int)} {doc pm ctv : Value} {fl : Array Value}
theorem law21 {b0 : Nat} {tz : Tok} {nL nB : Nat} {K : Shared → Prop} (W : Wd w mg mb mean h₀) (hh : A.handled = none) (F : Fm h₀ L lawNs vl ((L + 6, o6) :: rest) h) (ho : o6.data = .cell none)
    (m2 : (L + 2, o2) ∈ rest) (c2 : o2.data = .cell (some (.ref T))) (mT : (T, oT) ∈ rest) (hT : oT.IsDictOf (kS w) kvs) (lo : (T == sysModules) = false) (by_ : Bys kvs ps) (ok : TbOk ps)
    (m3 : (L + 3, o3) ∈ rest) (c3 : o3.data = .cell (some (.ref TL))) (mL : (TL, lsO ks nL) ∈ rest) (sk : Strs ks (ps.map (·.1)))
    (m4 : (L + 4, o4) ∈ rest) (c4 : o4.data = .cell (some (.ref BL))) (mB : (BL, lsO ys nB) ∈ rest) (iy : IntsAre ys (begs b0 ps ps.length))
    (m5 : (L + 5, o5) ∈ rest) (c5 : o5.data = .cell (some (.bytes f.toArray tz))) (hf : f.length ≤ 1000)
    (hq : ∀ h' o6 KT oK kvk tk', Fm h₀ L lawNs vl ((L + 6, o6) :: (KT, oK) :: rest) h' → o6.data = .cell (some (.ref KT)) → oK.IsDictOf (kS w) kvk → (KT == sysModules) = false → Bys kvk (keptL f b0 ps ps.length) → K ⟨h', g, d, tk', os⟩) :
    wpAny (Mo w) A (exec (lawSt 21) (envLaw L)) (fun f s' => f = .next ∧ K s') (fun _ _ => False) ⟨h, g, d, tk, os⟩ := by
  have Y := (df_law w).fi
  (wtm_at "pc")
  obtain ⟨q1, q2, q3, q4, q5, q6, q7⟩ := lk L
  (wtm_at "pu")
  have hks : ks.length = ps.length := by rw [sk.len, List.length_map]
  have hyl : ys.length = ps.length := by rw [iy.length]; simp [begs]
  have h6 := ok.six
  refine wpAny_Assign_Name ?_
  repeat (wtm_at "ev")
  refine r_lenL (Ls.of (F.get (.tail _ mL))) (by lia) ?_
  repeat (wtm_at "ev")
  refine r_range1 F fun r h' t₁ t₃ tk' hr F k1 => ?_
  refine r_iterR ks.length F hr (range_small (by lia) (by lia) (by decide)) (by rw [rsz_pos (by decide)]; split <;> lia) fun I h3 oI F3 st3 _ => ?_
  clear F
  have hF1 : List.lookup ("tags" : Str) [(("tags" : Str), L + 3), (("turned" : Str), L + 5), (("begins" : Str), L + 4), (("tables" : Str), L + 2)] = some (L + 3) := by kernel_rfl
  have hF2 : List.lookup ("turned" : Str) [(("tags" : Str), L + 3), (("turned" : Str), L + 5), (("begins" : Str), L + 4), (("tables" : Str), L + 2)] = some (L + 5) := by kernel_rfl
  have hF3 : List.lookup ("begins" : Str) [(("tags" : Str), L + 3), (("turned" : Str), L + 5), (("begins" : Str), L + 4), (("tables" : Str), L + 2)] = some (L + 4) := by kernel_rfl
  have hF4 : List.lookup ("tables" : Str) [(("tags" : Str), L + 3), (("turned" : Str), L + 5), (("begins" : Str), L + 4), (("tables" : Str), L + 2)] = some (L + 2) := by kernel_rfl
  refine comp_fin0 (nsC := ["at"]) (cnsC := ["tags", "turned", "begins", "tables"]) (gsC := []) (bsC := [("len", .builtin "len")]) 0 En.fnC rfl (Fi.of (by kernel_rfl)) (by decide +kernel) rfl (Walks.range hh I _ _ _) st_range
    (fun i ys news => ∃ more kvk, news = more ++ ((L + 6, o6) :: rest) ∧ Prs more ys kvk ∧ Bys kvk (keptL f b0 ps i)) (fun b hb => .inl (List.mem_singleton.mp hb)) rfl (by rw [sizeLine_eq]; lia) W F3 st3
    ⟨[], [], rfl, ⟨rfl, fun i v r e => by simp at e⟩, .nil⟩ ?_ ?_
  · intro hb' C D' i v zs nw h tk oI ep Y W keep hi hJ0 hJ1 F en
    (wtm_at "pc")
    obtain ⟨uu, rfl⟩ := hJ0
    obtain ⟨more, kvk, rfl, pr, bk⟩ := hJ1
    (wtm_at "pu")
    (wtm_at "fs")
    have hi' : i < ps.length := by lia
    have up : ∀ p ∈ rest, p ∈ (I, oI) :: (D', lsO zs ep) :: (more ++ ((L + 6, o6) :: rest)) := fun p hp => .tail _ (.tail _ (List.mem_append_right _ (.tail _ hp)))
    have m2' := up _ m2
    have m3' := up _ m3
    have m4' := up _ m4
    have m5' := up _ m5
    obtain ⟨tt, ek⟩ := sk.at_ i ks[i] ps[i].1 (List.getElem?_eq_getElem (by lia)) (by rw [List.getElem?_map, List.getElem?_eq_getElem hi']; rfl)
    (wtm_at "pc")
    obtain ⟨bb, tb, eb, ez⟩ := ints_at iy (i := i) (List.getElem?_eq_getElem (by lia))
    (wtm_at "pu")
    have hbb : bb = ((endFrom b0 (ps.take i) : Nat) : Int) := by
      unfold begs at eb
      rw [List.getElem?_map, List.getElem?_range hi'] at eb
      cases eb; rfl
    have ei : (0 + (i : Int) * 1).toNat = i := by lia
    have mT' := up _ mT
    have lenp := ok.len _ (List.getElem_mem hi')
    have dk := Dk.led F mT' hT lo
    obtain ⟨tv, hv⟩ := by_.valueAt (by rw [← by_.keys]; exact dk.nodup) (k := ps[i].1) (l := ps[i].2) (List.getElem_mem hi')
    repeat (wtm_at "ev")
    refine r_itemL (Ls.of (F.get (up _ mL))) (by lia) (by lia) (by rw [ei, List.getElem?_eq_getElem (by lia), ek]) ?_
    repeat (wtm_at "ev")
    refine r_itemL (Ls.of (F.get (up _ mB))) (by lia) (by lia) (by rw [ei, List.getElem?_eq_getElem (by lia), ez]) ?_
    repeat (wtm_at "ev")
    refine r_itemL (Ls.of (F.get (up _ mB))) (by lia) (by lia) (by rw [ei, List.getElem?_eq_getElem (by lia), ez]) ?_
    repeat (wtm_at "ev")
    refine r_itemL (Ls.of (F.get (up _ mL))) (by lia) (by lia) (by rw [ei, List.getElem?_eq_getElem (by lia), ek]) ?_
    repeat (wtm_at "ev")
    refine r_itemD (Dk.led F mT' hT lo) hv ?_
    subst hbb
    repeat (wtm_at "ev")
    have eb1 : (((endFrom b0 (ps.take i) : Nat) : Int) + ((ps[i].2.length : Nat) : Int)).toNat - (((endFrom b0 (ps.take i) : Nat) : Int)).toNat = ps[i].2.length := toNat_cut (Int.natCast_nonneg _) (Int.natCast_nonneg _)
    rw [eb1, Int.toNat_natCast] at FT
    obtain ⟨tw, FT⟩ : ∃ tw, Fm hb' C ["at"] [some (.int (0 + (i : Int) * 1) uu)] ((a, tpO [.str ps[i].1 tt, .bytes ((f.drop (endFrom b0 (ps.take i))).take ps[i].2.length).toArray tw]) :: (I, oI) :: (D', lsO zs ep) :: (more ++ (L + 6, o6) :: rest)) h := ⟨_, FT⟩
    have egd : ps.getD i ("", []) = ps[i] := by rw [List.getD_eq_getElem?_getD, List.getElem?_eq_getElem hi', Option.getD_some]
    have ekl : keptL f b0 ps (i + 1) = keptL f b0 ps i ++ [(ps[i].1, (f.drop (endFrom b0 (ps.take i))).take ps[i].2.length)] := by
      unfold keptL
      rw [List.range_succ, List.map_append, List.map_cons, List.map_nil, egd]
    refine ⟨_, _, _, _, rfl, FT.perm (news' := (I, oI) :: (D', lsO zs ep) :: (((a, tpO [.str ps[i].1 tt, .bytes ((f.drop (endFrom b0 (ps.take i))).take ps[i].2.length).toArray tw]) :: more) ++ (L + 6, o6) :: rest)) (by wtm_at "pm"), _, kvk ++ [(ps[i].1, .bytes ((f.drop (endFrom b0 (ps.take i))).take ps[i].2.length).toArray tw)], rfl, ⟨by simp [pr.len], fun j z p e1 e2 => ?_⟩, ?_⟩
    · by_cases q : j < zs.length
      · rw [List.getElem?_append_left q] at e1
        rw [List.getElem?_append_left (by rw [← pr.len]; exact q)] at e2
        (wtm_at "pc")
        obtain ⟨a', y1, e, m⟩ := pr.at_ j z p e1 e2
        (wtm_at "pu")
        exact ⟨a', y1, e, .tail _ m⟩
      · have hj : j = zs.length := by
          have := (List.getElem?_eq_some_iff.mp e1).1
          simp at this; lia
        subst hj
        rw [List.getElem?_append_right (Nat.le_refl _), Nat.sub_self] at e1
        rw [pr.len, List.getElem?_append_right (Nat.le_refl _), Nat.sub_self] at e2
        cases e1; cases e2
        exact ⟨_, _, rfl, .head _⟩
    · rw [ekl]
      exact bk.snoc
  · intro D' zs nw h tk ep hJ0 F
    (wtm_at "pc")
    obtain ⟨more, kvk, rfl, pr, bk⟩ := hJ0
    (wtm_at "pu")
    rw [hks] at bk
    have ekeys : (keptL f b0 ps ps.length).map (·.1) = ps.map (·.1) := by
      refine List.ext_getElem (by simp [keptL]) fun j h1 h2 => ?_
      have hj : j < ps.length := by simpa using h2
      simp only [keptL, List.getElem_map, List.getElem_range]
      rw [List.getD_eq_getElem?_getD, List.getElem?_eq_getElem hj, Option.getD_some]
    repeat (wtm_at "ev")
    refine r_dictPairs W F hh (.head _) ⟨pr.len, fun i v p e1 e2 => let ⟨a, t, e, m⟩ := pr.at_ i v p e1 e2; ⟨a, t, e, .tail _ (List.mem_append_left _ m)⟩⟩ ?_ ?_ fun KT oK h' tk' F hK lk => ?_
    · rw [bk.keys, ekeys, ← by_.keys]
      exact (Dk.led F (.tail _ (List.mem_append_right _ (.tail _ mT))) hT lo).nodup
    · rw [bk.length]; simp [keptL]; lia
    have F := (F.drop (news' := (KT, oK) :: (L + 6, o6) :: rest) (.cons_cons _ (.cons _ (List.sublist_append_right _ _)))).perm (news' := (L + 6, o6) :: (KT, oK) :: rest) (.swap ..)
    refine r_stC (c := L + 6) En.fnC Y (by wtm_at "mem") (by kernel_rfl) F ho fun h' o6' F ho' => ?_
    exact ⟨rfl, hq _ _ _ _ _ _ F ho' hK lk bk⟩
end
section
variable {w : World} {A : Around} {E : Value → Shared → Prop} {h₀ hb h h' : Heap} {g : Array GenState} {d : Drawn} {t tk : Nat} {os : OsState} {L S T CL D H rd c' a b c TL BL KT : Addr} {mg mb : Str → Option Value} {mean : ExcName → Option Value} {ns cns : List Str} {vs : List (Option Value)} {news rest : List (Addr × Obj)} {l m f : List UInt8} {n n2 cnt : Nat}
  {env : Env} {pos : Pos} {s : Shared} {x : Str} {v : Value} {i j : Int} {u : Tok} {xs ys zs ks : List Value} {js : List Int} {o1 o2 o3 o4 o5 o6 o7 oS oT oC oc oK : Obj} {kvs kvk : List (Str × Value)} {ps pk : List Tb} {v0 v1 v2 v3 v4 v5 v6 v7 v8 v9 : Option Value} {vl : List (Option Value)} {fs : List (Str × Str × Int)} {doc pm ctv : Value} {fl : Array Value}
theorem r_eqNil {na nb : Nat} {Q : Value → Shared → Prop} (ha : h.get? a = some (lsO [] na)) (hb : h.get? b = some (lsO [] nb)) (hu : A.units < cLine) (hq : Q (.bool true) ⟨h, g, d, tk, os⟩) : wpAny (Mo w) A (compareOp .Eq (.ref a) (.ref b)) Q E ⟨h, g, d, tk, os⟩ :=
  SeqAt.eq_listAt (items := #[]) (items2 := #[]) (e := fun _ => true) ⟨_, ha, rfl, _, rfl⟩ ⟨_, hb, rfl, _, rfl⟩ rfl hu (fun j h1 _ => absurd h1 (Nat.not_lt_zero _)) hq
theorem law22 {K : Shared → Prop} (W : Wd w mg mb mean h₀) (R : Rm 2 A) (hh : A.handled = none) (F : Fm h₀ L lawNs vl ((H, lsO zs n) :: rest) h) (m7 : (L + 7, o7) ∈ rest) (c7 : o7.data = .cell (some (.ref H)))
    (m6 : (L + 6, o6) ∈ rest) (c6 : o6.data = .cell (some (.ref KT))) (mK : (KT, oK) ∈ rest) (hK : oK.IsDictOf (kS w) kvk) (lk_ : (KT == sysModules) = false) (bk : Bys kvk pk) (cp : Cps w rest zs pk) (hz : zs.length ≤ 100)
    (hq : ∀ h' tk' news', Fm h₀ L lawNs vl (news' ++ rest) h' → K ⟨h', g, d, tk', os⟩) :
    wpAny (Mo w) A (exec (lawSt 22) (envLaw L)) (fun f s' => f = .ret (.bool true) ∧ K s') (fun _ _ => False) ⟨h, g, d, tk, os⟩ := by
  have Y := (df_law w).fi
  (wtm_at "pc")
  obtain ⟨q1, q2, q3, q4, q5, q6, q7⟩ := lk L
  (wtm_at "pu")
  refine wpAny_Return_some ?_
  repeat (wtm_at "ev")
  refine r_iterL F (Ls.of (F.get (.head _))) fun I h3 oI F3 st3 neI k3 => ?_
  clear F
  have hF1 : List.lookup ("kept" : Str) [(("kept" : Str), L + 6)] = some (L + 6) := by kernel_rfl
  refine comp_finT (nsC := ["given"]) (cnsC := ["kept"]) (gsC := []) (bsC := []) 0 En.fnC rfl (Fi.of (by kernel_rfl)) (by decide +kernel) rfl (Walks.list hh I H (Ne.symm neI) zs.toArray) st_list
    (fun i ys news => news = (H, lsO zs n) :: rest ∧ ys = []) (fun b hb => ?_) rfl (by rw [sizeLine_eq, List.size_toArray]; lia) W F3 st3 ⟨rfl, rfl⟩ ?_ ?_
  · rcases List.mem_cons.mp hb with rfl | q
    · exact .inl rfl
    · obtain rfl := List.mem_singleton.mp q
      exact .inr (.inr ⟨lsO zs n, fun i ys news j => by rw [j.1]; exact .head _⟩)
  · intro hb' C D' i v ys news₁ h tk oI ep Y W keep hi pv hJ0 F en
    (wtm_at "pc")
    obtain ⟨rfl, rfl⟩ := hJ0
    (wtm_at "pu")
    (wtm_at "fs")
    have pv' : zs[i]? = some v := by simpa using pv
    (wtm_at "pc")
    obtain ⟨z, oz, kvz, rfl, mz, hz1, hz2, bz⟩ := cp v (List.mem_of_getElem? pv')
    (wtm_at "pu")
    have up : ∀ p ∈ rest, p ∈ (I, oI) :: (D', lsO [] ep) :: (H, lsO zs n) :: rest := fun p hp => .tail _ (.tail _ (.tail _ hp))
    have m6' := up _ m6
    repeat (wtm_at "ev")
    refine r_neD (Dk.led F (up _ mz) hz1 hz2) (Dk.led F (up _ mK) hK lk_) bz bk R.units ?_
    repeat (wtm_at "ev")
    exact ⟨_, _, _, _, rfl, F, rfl, rfl⟩
  · intro D' ys news₁ h tk ep hJ0 F
    (wtm_at "pc")
    obtain ⟨rfl, rfl⟩ := hJ0
    (wtm_at "pu")
    repeat (wtm_at "ev")
    refine r_eqNil (F.get (.tail _ (.head _))) (F.get (.head _)) R.units ?_
    exact ⟨rfl, hq _ _ [_, _, _] F⟩
end
theorem strFlat : ∀ (ps : List Tb) (l : List Str), l.flatMap (triedF ps) = (l.filter fun t => decide (t ∈ ps.map (·.1))).map fun t => ((t, "cannot be read", 7) : Str × Str × Int)
  | ps, [] => rfl
  | ps, t :: l => by
    rw [List.flatMap_cons, strFlat ps l, List.filter_cons]
    unfold triedF
    by_cases q : t ∈ ps.map (·.1) <;> simp [q]
theorem findings_eq {ps qs : List Tb} (e : qs.map (·.1) = ps.map (·.1)) (sub : ∀ y ∈ ps.map (·.1), y ∈ tagL) : findingsOf qs = missF ps needL ++ hadF ps hadL := by
  have no : ∀ y : Str, y ∉ tagL → y ∉ ps.map (·.1) := fun y h q => h (sub y q)
  have n1 := no "hhea" (by decide +kernel)
  have n2 := no "maxp" (by decide +kernel)
  have n3 := no "cmap" (by decide +kernel)
  have n4 := no "GSUB" (by decide +kernel)
  have n5 := no "GPOS" (by decide +kernel)
  have n6 := no "kern" (by decide +kernel)
  unfold findingsOf
  have e1 : missF qs needL = missF ps needL := by unfold missF; rw [e]
  rw [e1, strFlat]
  congr 1
  unfold hadF
  rw [e]
  congr 1
  unfold triedL hadL
  simp only [List.filter_cons, n1, n2, n3, n4, n5, n6, decide_false, Bool.false_eq_true, if_false, List.filter_nil]
section
variable {w : World} {A : Around} {E : Value → Shared → Prop} {h₀ hb h h' : Heap} {g : Array GenState} {d : Drawn} {t tk : Nat} {os : OsState} {L S T CL D H rd c' a b c TL BL KT : Addr} {mg mb : Str → Option Value} {mean : ExcName → Option Value} {ns cns : List Str} {vs : List (Option Value)} {news rest Z : List (Addr × Obj)} {l m f : List UInt8} {n n2 cnt : Nat}
  {env : Env} {pos : Pos} {s : Shared} {x : Str} {v : Value} {i j : Int} {u : Tok} {xs ys zs ks : List Value} {js : List Int} {o1 o2 o3 o4 o5 o6 o7 oS oT oC oc oK : Obj} {kvs kvk : List (Str × Value)} {ps pk : List Tb} {v0 v1 v2 v3 v4 v5 v6 v7 v8 v9 : Option Value} {vl : List (Option Value)} {fs : List (Str × Str × Int)} {doc pm ctv : Value} {fl : Array Value}
structure Plain (ps : List Tb) (f : List UInt8) : Prop where
  good : Good f ps.length
  keys : (tabsOf f ps.length).map (·.1) = ps.map (·.1)
  right : wrongs f (recsD f ps.length) = []
  turned : ∀ k sp told nb, Ch ps (12 + 16 * ps.length) k sp told → nb ≠ f.getD sp 0 → sp < f.length ∧ Good (turnL f sp nb) ps.length ∧ tabsOf (turnL f sp nb) ps.length = keptL (turnL f sp nb) (12 + 16 * ps.length) ps ps.length ∧
    wrongs (turnL f sp nb) (recsD (turnL f sp nb) ps.length) = if told = true then [(ps.getD k ("", [])).1] else []
theorem kept_keys (f : List UInt8) (b : Nat) (ps : List Tb) : (keptL f b ps ps.length).map (·.1) = ps.map (·.1) := by
  refine List.ext_getElem (by simp [keptL]) fun j h1 h2 => ?_
  have hj : j < ps.length := by simpa using h2
  simp only [keptL, List.getElem_map, List.getElem_range]
  rw [List.getD_eq_getElem?_getD, List.getElem?_eq_getElem hj, Option.getD_some]
theorem lawB {l0 : Addr} {at_ : Int} {ta td : Tok} {K : Shared → Prop} (W : Wd w mg mb mean h₀) (R : Rm 16 A) (hh : A.handled = none) (hA : A.frames = some [envLaw L])
    (F : Fm h₀ L lawNs [some (.ref l0), v1, some (.ref rd), some (.ref D), some (.bytes f.toArray td), none, none, none, none, none, none] ((H, lsO [] n) :: (S, oS) :: (L + 3, o3) :: (L + 4, o4) :: (L + 5, o5) :: (L + 6, o6) :: Z) h)
    (c3 : o3.data = .cell none) (c4 : o4.data = .cell none) (c5 : o5.data = .cell none) (c6 : o6.data = .cell none)
    (hS : IsL oS [.ref CL, .int at_ ta]) (ha : 0 ≤ at_) (sn : SrcN L S CL xs js Z) (m2 : (L + 2, o2) ∈ Z) (c2 : o2.data = .cell (some (.ref T))) (mT : (T, oT) ∈ Z) (hT : oT.IsDictOf (kS w) kvs) (lo : (T == sysModules) = false) (by_ : Bys kvs ps) (G6 : Grow 6 ps)
    (r : RdN L rd H Z) (mD : (D, lsO ys n2) ∈ Z) (tn : TupN Z ys (missF ps needL ++ hadF ps hadL)) (pl : Plain ps f)
    (hq : ∀ h' tk' news' vs', Fm h₀ L lawNs vs' (news' ++ Z) h' → K ⟨h', g, d, tk', os⟩) :
    wpAny (Mo w) A (execs [lawSt 9, lawSt 10, lawSt 11, lawSt 12, lawSt 13, lawSt 14, lawSt 15, lawSt 16, lawSt 17, lawSt 18, lawSt 19, lawSt 20, lawSt 21, lawSt 22] (envLaw L)) (fun f s' => f = .ret (.bool true) ∧ K s') (fun _ _ => False) ⟨h, g, d, tk, os⟩ := by
  have ok := G6.ok
  have sub : ∀ y ∈ ps.map (·.1), y ∈ tagL := fun y hy => G6.sub.subset hy
  have ef := findings_eq pl.keys sub
  obtain ⟨fs, hfs⟩ : ∃ fs, fs = missF ps needL ++ hadF ps hadL := ⟨_, rfl⟩
  have hfl : fs.length ≤ 10 := by
    rw [hfs, List.length_append]
    have a := miss_len ps needL
    have b : (hadF ps hadL).length ≤ hadL.length := by unfold hadF; rw [List.length_map]; exact List.length_filter_le _ _
    have e : needL.length = 5 := rfl
    have e2 : hadL.length = 2 := rfl
    lia
  rw [← hfs] at tn ef
  (wtm_at "pc")
  obtain ⟨o7, m7, c7⟩ := r.cell
  (wtm_at "pu")
  (wtm_at "pc")
  obtain ⟨o1, m1, c1⟩ := sn.cell
  (wtm_at "pu")
  have nohh : ("hhea" : Str) ∉ ps.map (·.1) := fun q => absurd (sub _ q) (by decide +kernel)
  have hmax := pl.good.max
  have step : ∀ {st : Stmt} {r : List Stmt} {Q : Flow → Shared → Prop} {s : Shared}, wpAny (Mo w) A (exec st (envLaw L)) (fun f s' => f = .next ∧ wpAny (Mo w) A (execs r (envLaw L)) Q (fun _ _ => False) s') (fun _ _ => False) s → wpAny (Mo w) A (execs (st :: r) (envLaw L)) Q (fun _ _ => False) s := fun h1 =>
    wpAny_execs_cons (wpAny_mono h1 (fun f s' q => by obtain ⟨rfl, q⟩ := q; exact q) fun _ _ x => x)
  have h2 := ok.two
  have h6 := ok.six
  refine step (law9 W R hh hA F (r.mono fun p hp => by wtm_at "memL") (by wtm_at "memL") (tn.mono fun p hp => by wtm_at "memL") pl.good (by simp) (by rw [pl.keys]; exact nohh) (by rw [pl.right, List.map_nil, List.nil_append, ef]) (by lia) fun h' zs' n' tk' hz F => ?_)
  have F := F.perm (news' := (L + 3, o3) :: (H, lsO zs' n') :: (S, oS) :: (L + 4, o4) :: (L + 5, o5) :: (L + 6, o6) :: Z) (by wtm_at "pm")
  refine step (law10 W hh F c3 (by wtm_at "memL") c2 (by wtm_at "memL") hT lo by_ ok fun h' o3 TL ks nL tk' F c3 sk => ?_)
  have hks : ks.length = ps.length := by rw [sk.len, List.length_map]
  have F := F.perm (news' := (L + 4, o4) :: (L + 3, o3) :: (TL, lsO ks nL) :: (H, lsO zs' n') :: (S, oS) :: (L + 5, o5) :: (L + 6, o6) :: Z) (by wtm_at "pm")
  refine step (law11 W F c4 fun h' o4 BL tk' F c4 => ?_)
  refine step (law12 W F (by wtm_at "memL") c3 (by wtm_at "memL") (by lia) fun h' t tk' F => ?_)
  rw [hks] at F
  have eb0 : (12 + 16 * ((ps.length : Nat) : Int)) = ((12 + 16 * ps.length : Nat) : Int) := by lia
  rw [eb0] at F
  have F := F.perm (news' := (BL, lsO [] 0) :: (L + 4, o4) :: (L + 3, o3) :: (TL, lsO ks nL) :: (H, lsO zs' n') :: (S, oS) :: (L + 5, o5) :: (L + 6, o6) :: Z) (by wtm_at "pm")
  refine step (law13 W hh F (by wtm_at "memL") c2 (by wtm_at "memL") hT lo by_ ok (by wtm_at "memL") c3 (by wtm_at "memL") sk (by wtm_at "memL") c4 fun h' v1 v5 bs nB tk' F ib => ?_)
  have F := F.perm (news' := (S, oS) :: (BL, lsO bs nB) :: (L + 4, o4) :: (L + 3, o3) :: (TL, lsO ks nL) :: (H, lsO zs' n') :: (L + 5, o5) :: (L + 6, o6) :: Z) (by wtm_at "pm")
  refine step (law14 W R.le F hS ha (sn.mono fun p hp => by wtm_at "memL") (by wtm_at "memL") c3 (by wtm_at "memL") (by lia) (by lia) fun h' oS t2 k tn_ tk' hk F hS => ?_)
  have hk : k < ps.length := by lia
  refine step (law15 W F (by wtm_at "memL") c3 (by wtm_at "memL") sk (by lia) hk fun h' tg tk' F => ?_)
  refine step (law16 W hk F (by wtm_at "memL") c2 (by wtm_at "memL") hT lo by_ ok fun h' tz tk' F => ?_)
  refine step (law17 W R.le hk ok F hS (by lia) (sn.mono fun p hp => by wtm_at "memL") (by wtm_at "memL") c4 (by wtm_at "memL") ib fun h' oS t3 a2 sp told ts v10 tk' F hS ha2 ch => ?_)
  have F := F.perm (news' := (S, oS) :: (L + 5, o5) :: (BL, lsO bs nB) :: (L + 4, o4) :: (L + 3, o3) :: (TL, lsO ks nL) :: (H, lsO zs' n') :: (L + 6, o6) :: Z) (by wtm_at "pm")
  have hsp : sp < f.length := by
    by_cases q : (f.getD sp 0) = 0
    · exact (pl.turned k sp told 1 ch (by rw [q]; decide)).1
    · exact (pl.turned k sp told 0 ch (fun e => q e.symm)).1
  refine step (law18 W R.le hh F hS ha2 (sn.mono fun p hp => by wtm_at "memL") c5 hsp hmax fun h' oS t4 o5 nb tb tk' F hS c5 hnb => ?_)
  (wtm_at "pc")
  obtain ⟨_, Gt, et, ew⟩ := pl.turned k sp told nb ch hnb
  (wtm_at "pu")
  rw [List.getD_eq_getElem?_getD, List.getElem?_eq_getElem hk, Option.getD_some] at ew
  have F := F.perm (news' := (H, lsO zs' n') :: (S, oS) :: (L + 5, o5) :: (BL, lsO bs nB) :: (L + 4, o4) :: (L + 3, o3) :: (TL, lsO ks nL) :: (L + 6, o6) :: Z) (by wtm_at "pm")
  refine step (law19 W F (by wtm_at "memL") c7 (by simp at hz; lia) fun h' n'' tk' F => ?_)
  have kk2 : (tabsOf (turnL f sp nb) ps.length).map (·.1) = ps.map (·.1) := by rw [et]; exact kept_keys _ _ _
  have ef2 := findings_eq kk2 sub
  rw [← hfs] at ef2
  refine step (law20 W R hh hA F (by wtm_at "memL") c5 (r.mono fun p hp => by wtm_at "memL") (by wtm_at "memL") (tn.mono fun p hp => by wtm_at "memL") Gt (by rw [kk2]; exact nohh) ?_ (by lia) fun h' zs2 n3 more tk' hz2 F cp => ?_)
  · rw [ef2, ew]
    unfold sumT
    split <;> rfl
  have F := F.perm (news' := (L + 6, o6) :: (H, lsO zs2 n3) :: (more ++ (S, oS) :: (L + 5, o5) :: (BL, lsO bs nB) :: (L + 4, o4) :: (L + 3, o3) :: (TL, lsO ks nL) :: Z)) (by wtm_at "pm")
  have hft : (turnL f sp nb).length ≤ 1000 := Gt.max
  refine step (law21 W hh F c6 (by wtm_at "memL") c2 (by wtm_at "memL") hT lo by_ ok (by wtm_at "memL") c3 (by wtm_at "memL") sk (by wtm_at "memL") c4 (by wtm_at "memL") ib (by wtm_at "memL") c5 hft fun h' o6 KT oK kvk tk' F c6 hK lk bk => ?_)
  have F := F.perm (news' := (H, lsO zs2 n3) :: (L + 6, o6) :: (KT, oK) :: (more ++ (S, oS) :: (L + 5, o5) :: (BL, lsO bs nB) :: (L + 4, o4) :: (L + 3, o3) :: (TL, lsO ks nL) :: Z)) (by wtm_at "pm")
  refine wpAny_execs_cons (wpAny_mono (law22 W R.le hh F (by wtm_at "memL") c7 (by wtm_at "memL") c6 (by wtm_at "memL") hK lk bk (by rw [← et]; exact cp.mono fun p hp => .tail _ (.tail _ (List.mem_append_left _ hp))) (by lia) fun h' tk' news' F => hq h' tk' (news' ++ (L + 6, o6) :: (KT, oK) :: (more ++ [(S, oS), (L + 5, o5), (BL, lsO bs nB), (L + 4, o4), (L + 3, o3), (TL, lsO ks nL)])) _ (by simpa using F)) (fun f s' q => ?_) fun _ _ x => x)
  obtain ⟨rfl, q⟩ := q
  exact ⟨rfl, q⟩
end
noncomputable def sl (l : List UInt8) (a c : Nat) : List UInt8 := (l.drop a).take c
theorem sl_get (l : List UInt8) (a c i : Nat) : (sl l a c)[i]? = if i < c then l[a + i]? else none := by
  unfold sl; rw [List.getElem?_take, List.getElem?_drop]
theorem sl_ext {l m : List UInt8} {a b c : Nat} (h : ∀ i, i < c → l[a + i]? = m[b + i]?) : sl l a c = sl m b c := by
  refine List.ext_getElem? fun i => ?_
  rw [sl_get, sl_get]
  split
  · rename_i q; exact h i q
  · rfl
theorem sl_length {l : List UInt8} {a c : Nat} (h : a + c ≤ l.length) : (sl l a c).length = c := by unfold sl; simp; lia
theorem sl_sl {l : List UInt8} {a c b d : Nat} (h : b + d ≤ c) : sl (sl l a c) b d = sl l (a + b) d := by
  refine List.ext_getElem? fun i => ?_
  rw [sl_get, sl_get, sl_get]
  by_cases q : i < d
  · rw [if_pos q, if_pos q, if_pos (by lia), Nat.add_assoc]
  · rw [if_neg q, if_neg q]
theorem sl_right {l m : List UInt8} {a c : Nat} (h : l.length ≤ a) : sl (l ++ m) a c = sl m (a - l.length) c := by
  unfold sl; rw [List.drop_append, List.drop_eq_nil_of_le h, List.nil_append]
theorem sl_left {l m : List UInt8} {a c : Nat} (h : a + c ≤ l.length) : sl (l ++ m) a c = sl l a c :=
  sl_ext fun i hi => List.getElem?_append_left (by lia)
theorem turn_set {f : List UInt8} {sp : Nat} {nb : UInt8} (h : sp < f.length) : turnL f sp nb = f.set sp nb := by
  unfold turnL; rw [List.set_eq_take_append_cons_drop, if_pos h]; simp
theorem turn_get {f : List UInt8} {sp : Nat} {nb : UInt8} (h : sp < f.length) (i : Nat) : (turnL f sp nb)[i]? = if i = sp then some nb else f[i]? := by
  rw [turn_set h, List.getElem?_set]
  by_cases q : sp = i
  · rw [if_pos q, if_pos q.symm, if_pos (q ▸ h)]
  · rw [if_neg q, if_neg (Ne.symm q)]
theorem turn_length {f : List UInt8} {sp : Nat} {nb : UInt8} (h : sp < f.length) : (turnL f sp nb).length = f.length := by rw [turn_set h, List.length_set]
theorem sl_turn_out {f : List UInt8} {sp a c : Nat} {nb : UInt8} (h : sp < f.length) (o : sp < a ∨ a + c ≤ sp) : sl (turnL f sp nb) a c = sl f a c :=
  sl_ext fun i hi => by rw [turn_get h, if_neg (by lia)]
theorem sl_turn_in {f : List UInt8} {i a c : Nat} {nb : UInt8} (h : a + c ≤ f.length) (hi : i < c) : sl (turnL f (a + i) nb) a c = turnL (sl f a c) i nb := by
  refine List.ext_getElem? fun j => ?_
  rw [sl_get, turn_get (by lia), turn_get (by rw [sl_length h]; exact hi), sl_get]
  by_cases q : j = i
  · rw [if_pos (by lia), if_pos (by lia), if_pos q]
  · rw [if_neg (show ¬ a + j = a + i by lia), if_neg q]
theorem numL_beL : ∀ k n : Nat, numL (beL k n) = ((n % 256 ^ k : Nat) : Int)
  | 0, n => by simp [beL, numL, Nat.mod_one]
  | k + 1, n => by
    rw [beL, numL_cons, numL_beL k, beL_length, Nat.pow_succ, Nat.mod_mul]
    have e : (n / 256 ^ k).toUInt8.toNat = n / 256 ^ k % 256 := by simp
    rw [e, Nat.mul_comm (256 ^ k)]
    push_cast; lia
theorem tagS_octs {y : Str} (h : Asc y) : tagS (octsOf y) = y := by
  unfold Asc at h
  rw [← Array.all_toList, List.all_eq_true] at h
  obtain ⟨cps⟩ := y
  unfold tagS octsOf
  have : (cps.toList.map fun c => c.toUInt8).map (·.toNat) = cps.toList := by
    rw [List.map_map]
    refine (List.map_congr_left fun c hc => ?_).trans (List.map_id _)
    have := h c hc
    simp at this ⊢; lia
  rw [this]
theorem numL_turn {c : List UInt8} {j : Nat} {nb ob : UInt8} (h : c.length = 4) (hj : j < 4) (ho : c[j]? = some ob) : numL (turnL c j nb) = numL c + ((nb.toNat : Int) - ob.toNat) * 256 ^ (3 - j) := by
  match c, h with
  | [x0, x1, x2, x3], _ =>
    match j, hj with
    | 0, _ => cases ho; simp [turnL, numL]; lia
    | 1, _ => cases ho; simp [turnL, numL]; lia
    | 2, _ => cases ho; simp [turnL, numL]; lia
    | 3, _ => cases ho; simp [turnL, numL]; lia
theorem totN_turn {m : List UInt8} {i : Nat} {nb ob : UInt8} (hi : m[i]? = some ob) : ∀ K : Nat, 4 * K ≤ m.length → totN (turnL m i nb) K = totN m K + if i < 4 * K then ((nb.toNat : Int) - ob.toNat) * 256 ^ (3 - i % 4) else 0
  | 0, _ => by simp [totN]
  | K + 1, hK => by
    have him : i < m.length := (List.getElem?_eq_some_iff.mp hi).1
    rw [totN, totN, totN_turn hi K (by lia)]
    have e1 : ∀ l : List UInt8, (l.drop (4 * K)).take 4 = sl l (4 * K) 4 := fun _ => rfl
    rw [e1, e1]
    by_cases q : i < 4 * K
    · rw [if_pos q, if_pos (by lia), sl_turn_out him (by lia)]; lia
    · by_cases q2 : i < 4 * (K + 1)
      · obtain ⟨r, hr⟩ : ∃ r, i = 4 * K + r := ⟨i - 4 * K, by lia⟩
        subst hr
        rw [if_neg q, if_pos q2, sl_turn_in (by lia) (by lia), numL_turn (ob := ob) (sl_length (by lia)) (by lia) (by rw [sl_get, if_pos (by lia)]; exact hi)]
        rw [show (4 * K + r) % 4 = r by lia]; lia
      · rw [if_neg q, if_neg q2, sl_turn_out him (by lia)]; lia
theorem fill_turn {l : List UInt8} {i : Nat} {nb : UInt8} (h : i < l.length) : fill (turnL l i nb) = turnL (fill l) i nb := by
  unfold fill
  rw [turn_length h, turn_set h, turn_set (by simp; lia), List.set_append_left _ _ h]
theorem csum_turn {l : List UInt8} {i : Nat} {nb ob : UInt8} (hi : l[i]? = some ob) (ne : nb ≠ ob) : csum (turnL l i nb) ≠ csum l := by
  have hil : i < l.length := (List.getElem?_eq_some_iff.mp hi).1
  have hm := fill_mod l
  have hl := fill_length l
  have hf : (fill l)[i]? = some ob := by unfold fill; rw [List.getElem?_append_left hil]; exact hi
  unfold csum
  rw [fill_turn hil, turn_length (by lia), totN_turn hf _ (by lia), if_pos (by lia)]
  have h1 := nb.toNat_lt
  have h2 := ob.toNat_lt
  have h3 : (nb.toNat : Int) ≠ ob.toNat := fun q => ne (UInt8.toNat_inj.mp (by lia))
  generalize totN (fill l) ((fill l).length / 4) = T
  have : i % 4 < 4 := Nat.mod_lt _ (by decide)
  generalize i % 4 = r at this
  match r, this with
  | 0, _ => simp only [Nat.sub_zero, Int.reducePow]; lia
  | 1, _ => simp only [Nat.reduceSub, Int.reducePow]; lia
  | 2, _ => simp only [Nat.reduceSub, Int.reducePow]; lia
  | 3, _ => simp only [Nat.sub_self, Int.reducePow]; lia
noncomputable abbrev bs (ps : List Tb) (i : Nat) : Nat := endFrom (12 + 16 * ps.length) (ps.take i)
theorem bs_next {ps : List Tb} {i : Nat} (h : i < ps.length) : bs ps (i + 1) = bs ps i + (ps[i].2.length + pad ps[i].2.length) := endFrom_next (List.getElem?_eq_getElem h)
theorem bs_zero (ps : List Tb) : bs ps 0 = 12 + 16 * ps.length := by simp [bs, endFrom]
theorem bs_mono {ps : List Tb} {i : Nat} : ∀ k, i + k ≤ ps.length → bs ps i ≤ bs ps (i + k)
  | 0, _ => Nat.le_refl _
  | k + 1, h => by
    have := bs_mono (ps := ps) (i := i) k (by lia)
    have e := bs_next (ps := ps) (i := i + k) (by lia)
    rw [← Nat.add_assoc, e]; lia
theorem bs_step {ps : List Tb} {i j : Nat} (h : i < j) (hj : j ≤ ps.length) : bs ps i + (ps[i].2.length + pad ps[i].2.length) ≤ bs ps j := by
  rw [← bs_next (by lia)]
  have := bs_mono (ps := ps) (i := i + 1) (j - (i + 1)) (by lia)
  rwa [show i + 1 + (j - (i + 1)) = j by lia] at this
theorem bs_ge {ps : List Tb} {i : Nat} (h : i ≤ ps.length) : 12 + 16 * ps.length ≤ bs ps i := by
  have := bs_mono (ps := ps) (i := 0) i (by lia)
  rwa [bs_zero, Nat.zero_add] at this
theorem bs_end (ps : List Tb) : bs ps ps.length = endFrom (12 + 16 * ps.length) ps := by rw [bs, List.take_length]
structure Lay (ps : List Tb) (f : List UInt8) (tot : Nat → Int) : Prop where
  len : f.length = bs ps ps.length
  ver : sl f 0 4 = beL 4 65536
  cnt : sl f 4 2 = beL 2 ps.length
  tag : ∀ i (h : i < ps.length), sl f (12 + 16 * i) 4 = octsOf ps[i].1
  tot : ∀ i, i < ps.length → numL (sl f (12 + 16 * i + 4) 4) = tot i
  beg : ∀ i, i < ps.length → sl f (12 + 16 * i + 8) 4 = beL 4 (bs ps i)
  size : ∀ i (h : i < ps.length), sl f (12 + 16 * i + 12) 4 = beL 4 ps[i].2.length
section
variable {ps : List Tb} {f : List UInt8} {tot : Nat → Int}
theorem bs_le (ok : TbOk ps) {i : Nat} (h : i ≤ ps.length) : bs ps i ≤ 300 := by
  have h1 := endFrom_le ok.len (12 + 16 * ps.length)
  have h2 := bs_mono (ps := ps) (i := i) (ps.length - i) (by lia)
  rw [show i + (ps.length - i) = ps.length by lia, bs_end] at h2
  have := ok.six
  lia
theorem Lay.recD (L : Lay ps f tot) (ok : TbOk ps) {i : Nat} (h : i < ps.length) : recD f (12 + 16 * i) = ⟨ps[i].1, tot i, (bs ps i : Nat), (ps[i].2.length : Nat), (12 + 16 * i : Nat)⟩ := by
  have e : ∀ a, (f.drop a).take 4 = sl f a 4 := fun _ => rfl
  unfold Mine.recD
  rw [e, e, e, e, L.tag i h, L.tot i h, L.beg i h, L.size i h, tagS_octs (ok.tag _ (List.getElem_mem h)).asc, numL_beL, numL_beL]
  have h1 := bs_le ok (Nat.le_of_lt h)
  have h2 := ok.len _ (List.getElem_mem h)
  rw [Nat.mod_eq_of_lt (by lia), Nat.mod_eq_of_lt (by lia)]
theorem Lay.recs (L : Lay ps f tot) (ok : TbOk ps) {i : Nat} {r : RecD} (e : (recsD f ps.length)[i]? = some r) : ∃ h : i < ps.length, r = ⟨ps[i].1, tot i, (bs ps i : Nat), (ps[i].2.length : Nat), (12 + 16 * i : Nat)⟩ := by
  unfold recsD at e
  have hi : i < ps.length := by have := (List.getElem?_eq_some_iff.mp e).1; simpa using this
  rw [List.getElem?_map, List.getElem?_range hi] at e
  cases e
  exact ⟨hi, L.recD ok hi⟩
theorem Lay.good (L : Lay ps f tot) (ok : TbOk ps) : Good f ps.length := by
  have hmax := bs_le ok (Nat.le_refl _)
  have h6 := ok.six
  have pw : (recsD f ps.length).Pairwise fun a b => a.begin + a.length ≤ b.begin := by
    rw [List.pairwise_iff_getElem]
    intro i j hi hj hij
    obtain ⟨h1, e1⟩ := L.recs ok (List.getElem?_eq_getElem hi)
    obtain ⟨h2, e2⟩ := L.recs ok (List.getElem?_eq_getElem hj)
    rw [e1, e2]
    have := bs_step hij (Nat.le_of_lt h2)
    simp only []; lia
  refine ⟨by rw [L.len]; lia, by rw [L.len]; exact bs_ge (Nat.le_refl _), h6, ?_, ?_, fun i a b e1 e2 => ?_, fun r hr => ?_, fun i a b e1 e2 => ?_, fun r hr => ?_⟩
  · rw [show f.take 4 = sl f 0 4 from rfl, L.ver, numL_beL]; rfl
  · rw [show (f.drop 4).take 2 = sl f 4 2 from rfl, L.cnt, numL_beL, Nat.mod_eq_of_lt (by lia)]
  · obtain ⟨h1, rfl⟩ := L.recs ok e1
    obtain ⟨h2, rfl⟩ := L.recs ok e2
    exact ok.asc i _ _ (by rw [List.getElem?_map, List.getElem?_eq_getElem h1]; rfl) (by rw [List.getElem?_map, List.getElem?_eq_getElem h2]; rfl)
  · obtain ⟨i, hi, rfl⟩ := List.getElem_of_mem hr
    obtain ⟨h1, e1⟩ := L.recs ok (List.getElem?_eq_getElem hi)
    rw [e1, L.len]
    have := bs_step h1 (Nat.le_refl _)
    simp only []; lia
  · have q := pw.sublist (List.filter_sublist (p := fun r : RecD => decide (0 < r.length)))
    obtain ⟨h1, rfl⟩ := List.getElem?_eq_some_iff.mp e1
    obtain ⟨h2, rfl⟩ := List.getElem?_eq_some_iff.mp e2
    exact List.pairwise_iff_getElem.mp q i (i + 1) h1 h2 (Nat.lt_succ_self _)
  · obtain ⟨i, hi, rfl⟩ := List.getElem_of_mem (List.mem_filter.mp hr).1
    obtain ⟨h1, e1⟩ := L.recs ok (List.getElem?_eq_getElem hi)
    rw [e1]
    have := bs_ge (ps := ps) (Nat.le_of_lt h1)
    simp only []; lia
theorem Lay.tabs (L : Lay ps f tot) (ok : TbOk ps) : tabsOf f ps.length = keptL f (12 + 16 * ps.length) ps ps.length := by
  refine List.ext_getElem? fun i => ?_
  unfold tabsOf keptL
  rw [List.getElem?_map, List.getElem?_map]
  by_cases h : i < ps.length
  · have hl : i < (recsD f ps.length).length := by simp [recsD]; exact h
    obtain ⟨_, er⟩ := L.recs ok (List.getElem?_eq_getElem hl)
    rw [List.getElem?_eq_getElem hl, er, List.getElem?_range h, Option.map_some, Option.map_some, List.getD_eq_getElem?_getD, List.getElem?_eq_getElem h]
    simp [tabOf]
  · rw [List.getElem?_eq_none (by simp [recsD]; lia), List.getElem?_eq_none (by simp; lia)]; rfl
theorem Lay.wrongs (L : Lay ps f tot) (ok : TbOk ps) {k : Nat} {told : Bool} (hk : k < ps.length)
    (h : ∀ i (hi : i < ps.length), (csum (unadj ps[i].1 (sl f (bs ps i) ps[i].2.length)) != tot i) = (decide (i = k) && told)) : wrongs f (recsD f ps.length) = if told = true then [(ps.getD k ("", [])).1] else [] := by
  have hb : ∀ i, i < ps.length → wrongB f (Mine.recD f (12 + 16 * i)) = (decide (i = k) && told) := fun i hi => by
    rw [L.recD ok hi, ← h i hi]; unfold wrongB tabOf sl; simp only [Int.toNat_natCast]
  unfold Mine.wrongs recsD
  rw [List.filter_map, List.map_map]
  have e1 : (List.range ps.length).filter (wrongB f ∘ fun i => Mine.recD f (12 + 16 * i)) = (List.range ps.length).filter fun i => decide (i = k) && told :=
    List.filter_congr fun i hi => hb i (List.mem_range.mp hi)
  rw [e1]
  cases told with
  | false => simp
  | true =>
    have e2 : ∀ n, (List.range n).filter (fun i => decide (i = k) && true) = if k < n then [k] else [] := by
      intro n
      induction n with
      | zero => simp
      | succ n ih =>
        rw [List.range_succ, List.filter_append, ih]
        by_cases q : k < n
        · rw [if_pos q, if_pos (by lia)]; simp; lia
        · by_cases q2 : n = k
          · subst q2; simp
          · rw [if_neg q, if_neg (by lia)]; simp [q2]
    rw [e2, if_pos hk, if_pos rfl, List.getD_eq_getElem?_getD, List.getElem?_eq_getElem hk]
    simp [L.recD ok hk]
end
theorem endFrom_ge : ∀ (ps : List Tb) (b : Nat), b ≤ endFrom b ps
  | [], b => Nat.le_refl _
  | p :: r, b => Nat.le_trans (Nat.le_add_right _ _) (endFrom_ge r _)
theorem partsOf_cons (p : Tb) (r : List Tb) : (partsOf (p :: r)).flatten = fill (bodyOf p) ++ (partsOf r).flatten := rfl
theorem parts_length : ∀ (ps : List Tb) (b : Nat), (partsOf ps).flatten.length + b = endFrom b ps
  | [], b => by simp [partsOf, endFrom]
  | p :: r, b => by
    have := parts_length r (b + (fill (bodyOf p)).length)
    rw [partsOf_cons, List.length_append, endFrom, ← this]; lia
theorem part_at : ∀ (ps : List Tb) (b i : Nat) (h : i < ps.length), sl (partsOf ps).flatten (endFrom b (ps.take i) - b) ps[i].2.length = bodyOf ps[i]
  | p :: r, b, 0, _ => by
    rw [List.take_zero, endFrom, Nat.sub_self, partsOf_cons]
    show sl _ 0 p.2.length = bodyOf p
    rw [sl_left (by rw [fill_length, bodyOf_length]; lia)]
    unfold sl fill
    rw [List.drop_zero, List.take_left' (bodyOf_length p)]
  | p :: r, b, i + 1, h => by
    have ih := part_at r (b + (fill (bodyOf p)).length) i (by simpa using h)
    have hge := endFrom_ge (r.take i) (b + (fill (bodyOf p)).length)
    rw [List.take_succ_cons, endFrom, partsOf_cons, sl_right (Nat.le_sub_of_add_le (by rw [Nat.add_comm]; exact hge)), Nat.sub_sub]
    exact ih
theorem recsFrom_get : ∀ (ps : List Tb) (b i : Nat) (h : i < ps.length), (recsFrom b ps)[i]? = some ⟨ps[i].1, csum (bodyOf ps[i]), (endFrom b (ps.take i) : Nat), ((bodyOf ps[i]).length : Nat), 0⟩
  | p :: r, b, 0, _ => rfl
  | p :: r, b, i + 1, h => by
    have ih := recsFrom_get r (b + (fill (bodyOf p)).length) i (by simpa using h)
    rw [recsFrom, List.getElem?_cons_succ, ih]; rfl
theorem flat_rec : ∀ {rs : List RecD}, (∀ r ∈ rs, RecOk r) → ∀ (i : Nat) (r : RecD), rs[i]? = some r → sl (rs.map recL).flatten (16 * i) 16 = recL r
  | [], _, _, _, e => by simp at e
  | q :: rs, o, 0, r, e => by
    cases e
    have := recL_length (o q (.head _))
    rw [List.map_cons, List.flatten_cons, Nat.mul_zero]
    unfold sl
    rw [List.drop_zero, List.take_left' this]
  | q :: rs, o, i + 1, r, e => by
    have := recL_length (o q (.head _))
    rw [List.map_cons, List.flatten_cons, sl_right (by lia), this, show 16 * (i + 1) - 16 = 16 * i by lia]
    exact flat_rec (fun x hx => o x (.tail _ hx)) i r (by simpa using e)
theorem recL_parts {r : RecD} (o : RecOk r) : sl (recL r) 0 4 = octsOf r.tag ∧ sl (recL r) 4 4 = beL 4 r.total.toNat ∧ sl (recL r) 8 4 = beL 4 r.begin.toNat ∧ sl (recL r) 12 4 = beL 4 r.length.toNat := by
  have h4 : (octsOf r.tag).length = 4 := by simp [octsOf, o.four]
  have l1 := beL_length 4 r.total.toNat
  have l2 := beL_length 4 r.begin.toNat
  have l3 := beL_length 4 r.length.toNat
  have full : ∀ l : List UInt8, l.length = 4 → sl l 0 4 = l := fun l h => by unfold sl; rw [List.drop_zero, List.take_of_length_le (by lia)]
  unfold recL
  refine ⟨?_, ?_, ?_, ?_⟩
  · rw [sl_left (by simp; lia), sl_left (by simp; lia), sl_left (by lia), full _ h4]
  · rw [sl_left (by simp; lia), sl_left (by simp; lia), sl_right (by lia), h4, full _ l1]
  · rw [sl_left (by simp; lia), sl_right (by simp; lia), List.length_append, h4, l1, full _ l2]
  · rw [sl_right (by simp; lia), List.length_append, List.length_append, h4, l1, l2, full _ l3]
theorem lay_sfnt {ps : List Tb} {s3 : List UInt8} (ok : TbOk ps) (hs3 : s3.length = 6) :
    Lay ps (sfntL s3 ps) (fun i => csum (bodyOf (ps.getD i ("", [])))) ∧ ∀ i (h : i < ps.length), sl (sfntL s3 ps) (bs ps i) ps[i].2.length = bodyOf ps[i] := by
  have h6 := ok.six
  have oks : ∀ r ∈ recsFrom (12 + 16 * ps.length) ps, RecOk r := recsFrom_ok ok.tag ok.len _ (by lia)
  have dl := dirL_length hs3 oks
  rw [recsFrom_length] at dl
  have l4 := beL_length 4 65536
  have l2 := beL_length 2 (recsFrom (12 + 16 * ps.length) ps).length
  have full : ∀ (l : List UInt8) n, l.length = n → sl l 0 n = l := fun l n h => by unfold sl; rw [List.drop_zero, List.take_of_length_le (by lia)]
  have dir : ∀ a c, a + c ≤ 12 + 16 * ps.length → sl (sfntL s3 ps) a c = sl (dirL s3 (recsFrom (12 + 16 * ps.length) ps)) a c := fun a c h => by unfold sfntL; exact sl_left (by lia)
  have rec_ : ∀ i (h : i < ps.length) o c, o + c ≤ 16 → sl (sfntL s3 ps) (12 + 16 * i + o) c = sl (recL ⟨ps[i].1, csum (bodyOf ps[i]), (bs ps i : Nat), ((bodyOf ps[i]).length : Nat), 0⟩) o c := fun i h o c hc => by
    rw [dir _ _ (by lia)]
    unfold dirL
    rw [sl_right (by simp [l4, l2, hs3]; lia), ← flat_rec oks i _ (recsFrom_get ps _ i h), sl_sl hc]
    congr 1; simp [l4, l2, hs3]; lia
  have okr : ∀ i (h : i < ps.length), RecOk ⟨ps[i].1, csum (bodyOf ps[i]), (bs ps i : Nat), ((bodyOf ps[i]).length : Nat), 0⟩ := fun i h => oks _ (List.mem_of_getElem? (recsFrom_get ps _ i h))
  refine ⟨⟨?_, ?_, ?_, fun i h => ?_, fun i h => ?_, fun i h => ?_, fun i h => ?_⟩, fun i h => ?_⟩
  · have := parts_length ps (12 + 16 * ps.length)
    unfold sfntL
    rw [List.length_append, dl, bs_end, ← this]; lia
  · rw [dir _ _ (by lia)]
    unfold dirL
    rw [sl_left (by simp [l4, l2, hs3]), sl_left (by simp [l4, l2]), sl_left (by lia), full _ _ l4]
  · rw [dir _ _ (by lia)]
    unfold dirL
    rw [sl_left (by simp [l4, l2, hs3]), sl_left (by simp [l4, l2]), sl_right (by lia), l4, full _ _ l2, recsFrom_length]
  · rw [← Nat.add_zero (12 + 16 * i), rec_ i h 0 4 (by lia), (recL_parts (okr i h)).1]
  · rw [rec_ i h 4 4 (by lia), (recL_parts (okr i h)).2.1, numL_beL, List.getD_eq_getElem?_getD, List.getElem?_eq_getElem h, Option.getD_some]
    have := csum_range (bodyOf ps[i])
    simp only []; lia
  · rw [rec_ i h 8 4 (by lia), (recL_parts (okr i h)).2.2.1]; rfl
  · rw [rec_ i h 12 4 (by lia), (recL_parts (okr i h)).2.2.2, bodyOf_length]; rfl
  · have hg := bs_ge (Nat.le_of_lt h)
    unfold sfntL
    rw [sl_right (by lia), dl]
    exact part_at ps _ i h
theorem hasAdj_len {t : Str} {l m : List UInt8} (h : l.length = m.length) : hasAdj t l = hasAdj t m := by unfold hasAdj; rw [h]
theorem hasAdj_ge {t : Str} {l : List UInt8} (h : hasAdj t l = true) : t = "head" ∧ 12 ≤ l.length := by unfold hasAdj at h; simpa using h
theorem unadj_get (t : Str) (l : List UInt8) (j : Nat) : (unadj t l)[j]? = if hasAdj t l = true ∧ 8 ≤ j ∧ j < 12 then some 0 else l[j]? := by
  unfold unadj
  by_cases q : hasAdj t l = true
  · have := (hasAdj_ge q).2
    rw [if_pos q]
    have e8 : (l.take 8).length = 8 := by rw [List.length_take]; exact Nat.min_eq_left (Nat.le_trans (by decide) this)
    have e12 : (l.take 8 ++ List.replicate 4 0).length = 12 := by rw [List.length_append, e8, List.length_replicate]
    by_cases h1 : j < 8
    · rw [if_neg (by lia), List.append_assoc, List.getElem?_append_left (by lia), List.getElem?_take, if_pos h1]
    · by_cases h2 : j < 12
      · rw [if_pos ⟨q, Nat.le_of_not_lt h1, h2⟩, List.getElem?_append_left (by rw [e12]; exact h2), List.getElem?_append_right (by rw [e8]; exact Nat.le_of_not_lt h1), List.getElem?_replicate, e8, if_pos (Nat.sub_lt_left_of_lt_add (Nat.le_of_not_lt h1) h2)]
      · rw [if_neg fun z => h2 z.2.2, List.getElem?_append_right (by rw [e12]; exact Nat.le_of_not_lt h2), List.getElem?_drop, e12, Nat.add_sub_cancel' (Nat.le_of_not_lt h2)]
  · rw [if_neg q, if_neg (fun z => q z.1)]
theorem unadj_congr {t : Str} {l m : List UInt8} (h : l.length = m.length) (e : ∀ j, (hasAdj t l = true → j < 8 ∨ 12 ≤ j) → l[j]? = m[j]?) : unadj t l = unadj t m := by
  refine List.ext_getElem? fun j => ?_
  rw [unadj_get, unadj_get, ← hasAdj_len h]
  by_cases q : hasAdj t l = true ∧ 8 ≤ j ∧ j < 12
  · rw [if_pos q, if_pos q]
  · rw [if_neg q, if_neg q]
    exact e j fun z => by
      by_cases h8 : j < 8
      · exact .inl h8
      · exact .inr (Nat.le_of_not_lt fun h12 => q ⟨z, by lia, h12⟩)
theorem unadj_body (p : Tb) : unadj p.1 (bodyOf p) = bodyOf p := by
  unfold bodyOf
  refine unadj_congr (bodyOf_length p) fun j hj => ?_
  rw [unadj_get, if_neg]
  rintro ⟨a, b, c⟩
  have := hj (by rw [← a]; exact hasAdj_len (bodyOf_length p))
  lia
theorem unadj_turn_in {t : Str} {l : List UInt8} {i : Nat} {nb : UInt8} (hi : i < l.length) (h : hasAdj t l = true) (h8 : 8 ≤ i) (h12 : i < 12) : unadj t (turnL l i nb) = unadj t l :=
  unadj_congr (turn_length hi) fun j hj => by
    have := hj (by rw [hasAdj_len (turn_length hi)]; exact h)
    rw [turn_get hi, if_neg (by lia)]
theorem unadj_len (t : Str) (l : List UInt8) : (unadj t l).length = l.length := bodyOf_length (t, l)
theorem unadj_turn_out {t : Str} {l : List UInt8} {i : Nat} {nb : UInt8} (hi : i < l.length) (h : ¬ (hasAdj t l = true ∧ 8 ≤ i ∧ i < 12)) : unadj t (turnL l i nb) = turnL (unadj t l) i nb := by
  refine List.ext_getElem? fun j => ?_
  rw [turn_get (by rw [unadj_len]; exact hi), unadj_get, unadj_get, hasAdj_len (turn_length hi), turn_get hi]
  by_cases q : j = i
  · subst q
    rw [if_neg h, if_pos rfl]; simp
  · simp only [if_neg q]
theorem spot_at : ∀ (ps : List Tb) (b : Nat) (s0 : Option Nat) (sp : Nat), spotFrom b s0 ps = some sp → s0 = some sp ∨ ∃ k, ∃ h : k < ps.length, hasAdj ps[k].1 (bodyOf ps[k]) = true ∧ sp = endFrom b (ps.take k) + 8
  | [], b, s0, sp, e => .inl e
  | p :: r, b, s0, sp, e => by
    rw [spotFrom] at e
    rcases spot_at r _ _ sp e with q | ⟨k, h, a, e2⟩
    · by_cases z : hasAdj p.1 (bodyOf p) = true
      · rw [if_pos z] at q
        cases q
        exact .inr ⟨0, by simp, z, by simp [endFrom]⟩
      · rw [if_neg z] at q; exact .inl q
    · exact .inr ⟨k + 1, by simpa using h, by simpa using a, by rw [List.take_succ_cons, endFrom]; exact e2⟩
theorem splice_get {F a4 : List UInt8} {sp : Nat} (h : sp + 4 ≤ F.length) (h4 : a4.length = 4) (j : Nat) : (F.take sp ++ a4 ++ F.drop (sp + 4))[j]? = if sp ≤ j ∧ j < sp + 4 then a4[j - sp]? else F[j]? := by
  have e : (F.take sp).length = sp := by rw [List.length_take]; exact Nat.min_eq_left (Nat.le_trans (Nat.le_add_right sp 4) h)
  have e4 : (F.take sp ++ a4).length = sp + 4 := by rw [List.length_append, e, h4]
  by_cases h1 : j < sp
  · rw [if_neg (by lia), List.append_assoc, List.getElem?_append_left (by lia), List.getElem?_take, if_pos h1]
  · by_cases h2 : j < sp + 4
    · rw [if_pos ⟨Nat.le_of_not_lt h1, h2⟩, List.getElem?_append_left (by rw [e4]; exact h2), List.getElem?_append_right (by rw [e]; exact Nat.le_of_not_lt h1), e]
    · rw [if_neg fun z => h2 z.2, List.getElem?_append_right (by rw [e4]; exact Nat.le_of_not_lt h2), List.getElem?_drop, e4, Nat.add_sub_cancel' (Nat.le_of_not_lt h2)]
theorem hdr4 {i n : Nat} (h : i < n) (d : Nat) (hd : d ≤ 12) : 12 + 16 * i + d + 4 ≤ 12 + 16 * n := by lia
theorem Lay.head {ps : List Tb} {f f' : List UInt8} {tot : Nat → Int} (L : Lay ps f tot) (hl : f'.length = f.length) (out : ∀ a c, a + c ≤ 12 + 16 * ps.length → sl f' a c = sl f a c) : Lay ps f' tot :=
  ⟨hl.trans L.len, (out _ _ (Nat.le_trans (by decide) (Nat.le_add_right 12 _))).trans L.ver, (out _ _ (Nat.le_trans (by decide) (Nat.le_add_right 12 _))).trans L.cnt,
    fun i h => (out _ _ (hdr4 h 0 (by decide))).trans (L.tag i h), fun i h => by rw [out _ _ (hdr4 h 4 (by decide))]; exact L.tot i h,
    fun i h => (out _ _ (hdr4 h 8 (by decide))).trans (L.beg i h), fun i h => (out _ _ (hdr4 h 12 (by decide))).trans (L.size i h)⟩
theorem wrote_lay {ps : List Tb} {f : List UInt8} (ok : TbOk ps) (wr : Wrote ps f) :
    Lay ps f (fun i => csum (bodyOf (ps.getD i ("", [])))) ∧ ∀ i (h : i < ps.length), unadj ps[i].1 (sl f (bs ps i) ps[i].2.length) = bodyOf ps[i] := by
  obtain ⟨s3, hs3, m⟩ := wr
  obtain ⟨L, B⟩ := lay_sfnt ok hs3
  cases hsp : spotFrom (12 + 16 * ps.length) none ps with
  | none =>
    rw [hsp] at m
    obtain rfl := m
    exact ⟨L, fun i h => by rw [B i h, unadj_body]⟩
  | some sp =>
    rw [hsp] at m
    obtain ⟨a4, h4, e⟩ := m
    rcases spot_at ps _ _ sp hsp with q | ⟨k, hk, ha, es⟩
    · cases q
    have hl := (hasAdj_ge ha).2
    rw [bodyOf_length] at hl
    have hse : sp = bs ps k + 8 := es
    have hend : bs ps k + (ps[k].2.length + pad ps[k].2.length) ≤ (sfntL s3 ps).length := by
      rw [L.len]
      have := bs_step (ps := ps) (i := k) (j := ps.length) hk (Nat.le_refl _)
      exact this
    have hbk := bs_ge (ps := ps) (Nat.le_of_lt hk)
    have hs4 : sp + 4 ≤ (sfntL s3 ps).length := by
      rw [hse]; exact Nat.le_trans (Nat.add_le_add_left (Nat.le_trans hl (Nat.le_add_right _ _)) _) hend
    have out : ∀ a c, a + c ≤ sp ∨ sp + 4 ≤ a → sl f a c = sl (sfntL s3 ps) a c := fun a c h => sl_ext fun i hi => by
      rw [e, splice_get hs4 h4, if_neg fun z => h.elim (fun q => absurd z.1 (Nat.not_le_of_lt (Nat.lt_of_lt_of_le (Nat.add_lt_add_left hi a) q))) (fun q => absurd z.2 (Nat.not_lt_of_le (Nat.le_trans q (Nat.le_add_right a i))))]
    have fl : f.length = (sfntL s3 ps).length := by
      rw [e, List.length_append, List.length_append, h4, List.length_take, List.length_drop, Nat.min_eq_left (Nat.le_trans (Nat.le_add_right sp 4) hs4)]; exact Nat.add_sub_cancel' hs4
    refine ⟨L.head fl fun a c q => out a c (.inl (Nat.le_trans q (by rw [hse]; exact Nat.le_trans hbk (Nat.le_add_right _ 8)))), fun i h => ?_⟩
    · by_cases q : i = k
      · subst q
        rw [← unadj_body, ← B i h]
        refine unadj_congr (by rw [sl_length (by lia), sl_length (by lia)]) fun j hj => ?_
        have hx : hasAdj ps[i].1 (sl f (bs ps i) ps[i].2.length) = true := by
          rw [← ha]; exact hasAdj_len (by rw [sl_length (by lia), bodyOf_length])
        have := hj hx
        rw [sl_get, sl_get, e, splice_get hs4 h4 (bs ps i + j), if_neg (show ¬ (sp ≤ bs ps i + j ∧ bs ps i + j < sp + 4) by lia)]
      · rw [out, B i h, unadj_body]
        rcases Nat.lt_or_gt_of_ne q with hb | hb
        · exact .inl (Nat.le_trans (Nat.le_trans (Nat.add_le_add_left (Nat.le_add_right _ _) _) (bs_step hb (Nat.le_of_lt hk))) (by rw [hse]; exact Nat.le_add_right _ 8))
        · exact .inr (Nat.le_trans (by rw [hse]; exact Nat.le_trans (Nat.add_le_add_left hl _) (Nat.add_le_add_left (Nat.le_add_right _ _) _)) (bs_step hb (Nat.le_of_lt h)))
theorem plain_of {ps : List Tb} {f : List UInt8} (ok : TbOk ps) (wr : Wrote ps f) : Plain ps f := by
  obtain ⟨L, B⟩ := wrote_lay ok wr
  have two := ok.two
  have gd : ∀ i (h : i < ps.length), ps.getD i ("", []) = ps[i] := fun i h => by rw [List.getD_eq_getElem?_getD, List.getElem?_eq_getElem h, Option.getD_some]
  refine ⟨L.good ok, by rw [L.tabs ok]; exact kept_keys _ _ _, ?_, fun k sp told nb ch ne => ?_⟩
  · rw [L.wrongs ok (k := 0) (told := false) (by lia) fun i h => by rw [B i h, gd i h]; simp]
    simp
  have gL : ∀ {t : List UInt8} {tot : Nat → Int}, Lay ps t tot → sp < f.length → (∀ i (hi : i < ps.length), (csum (unadj ps[i].1 (sl t (bs ps i) ps[i].2.length)) != tot i) = (decide (i = k) && told)) → k < ps.length →
      sp < f.length ∧ Good t ps.length ∧ tabsOf t ps.length = keptL t (12 + 16 * ps.length) ps ps.length ∧ wrongs t (recsD t ps.length) = if told = true then [(ps.getD k ("", [])).1] else [] :=
    fun L' hs hw hk => ⟨hs, L'.good ok, L'.tabs ok, L'.wrongs ok hk hw⟩
  obtain ⟨hk, ⟨rfl, j, hj, rfl⟩ | ⟨ins, hi, rfl, rfl⟩⟩ := ch
  · have hlen : 12 + 16 * ps.length ≤ f.length := by rw [L.len]; exact bs_ge (Nat.le_refl _)
    have hs : 12 + 16 * k + 4 + j < f.length := by lia
    have hob : f[12 + 16 * k + 4 + j]? = some (f.getD (12 + 16 * k + 4 + j) 0) := by rw [List.getD_eq_getElem?_getD, List.getElem?_eq_getElem hs, Option.getD_some]
    have hc : numL (turnL (sl f (12 + 16 * k + 4) 4) j nb) ≠ csum (bodyOf ps[k]) := by
      rw [numL_turn (ob := f.getD (12 + 16 * k + 4 + j) 0) (sl_length (by lia)) hj (by rw [sl_get, if_pos hj]; exact hob), L.tot k hk, gd k hk]
      have h3 : (nb.toNat : Int) ≠ (f.getD (12 + 16 * k + 4 + j) 0).toNat := fun q => ne (UInt8.toNat_inj.mp (by lia))
      generalize (nb.toNat : Int) = x at *
      generalize ((f.getD (12 + 16 * k + 4 + j) 0).toNat : Int) = y at *
      match j, hj with
      | 0, _ => simp only [Nat.sub_zero, Int.reducePow]; lia
      | 1, _ => simp only [Nat.reduceSub, Int.reducePow]; lia
      | 2, _ => simp only [Nat.reduceSub, Int.reducePow]; lia
      | 3, _ => simp only [Nat.sub_self, Int.reducePow]; lia
    have out : ∀ a c, 12 + 16 * k + 4 + j < a ∨ a + c ≤ 12 + 16 * k + 4 + j → sl (turnL f (12 + 16 * k + 4 + j) nb) a c = sl f a c := fun a c h => sl_turn_out hs h
    refine gL (tot := fun i => if i = k then numL (turnL (sl f (12 + 16 * k + 4) 4) j nb) else csum (bodyOf (ps.getD i ("", [])))) ⟨(turn_length hs).trans L.len, ?_, ?_, fun i h => ?_, fun i h => ?_, fun i h => ?_, fun i h => ?_⟩ hs (fun i h => ?_) hk
    · rw [out _ _ (by lia)]; exact L.ver
    · rw [out _ _ (by lia)]; exact L.cnt
    · rw [out _ _ (by lia)]; exact L.tag i h
    · by_cases q : i = k
      · subst q
        rw [if_pos rfl, sl_turn_in (by lia) hj]
      · rw [if_neg q, out _ _ (by lia)]; exact L.tot i h
    · rw [out _ _ (by lia)]; exact L.beg i h
    · rw [out _ _ (by lia)]; exact L.size i h
    · have := bs_ge (ps := ps) (Nat.le_of_lt h)
      rw [out _ _ (by lia), B i h]
      by_cases q : i = k
      · subst q
        rw [if_pos rfl]; simpa using hc.symm
      · rw [if_neg q, gd i h]; simp [q]
  · have hlen : bs ps k + (ps[k].2.length + pad ps[k].2.length) ≤ f.length := by
      rw [L.len]; exact bs_step hk (Nat.le_refl _)
    have hbk := bs_ge (ps := ps) (Nat.le_of_lt hk)
    generalize hsp : endFrom (12 + 16 * ps.length) (ps.take k) + ins = sp at *
    have hsp : sp = bs ps k + ins := hsp.symm
    have hs : sp < f.length := by lia
    have hob : f[sp]? = some (f.getD sp 0) := by rw [List.getD_eq_getElem?_getD, List.getElem?_eq_getElem hs, Option.getD_some]
    have out : ∀ a c, sp < a ∨ a + c ≤ sp → sl (turnL f sp nb) a c = sl f a c := fun a c h => sl_turn_out hs h
    refine gL (L.head (turn_length hs) fun a c q => out a c (.inr (Nat.le_trans q (by rw [hsp]; exact Nat.le_trans hbk (Nat.le_add_right _ _))))) hs (fun i h => ?_) hk
    · by_cases q : i = k
      · subst q
        rw [gd i h, decide_eq_true (rfl : i = i), Bool.true_and]
        by_cases hin : ins < ps[i].2.length
        · have hl : (sl f (bs ps i) ps[i].2.length).length = ps[i].2.length := sl_length (by lia)
          rw [hsp, sl_turn_in (by lia) hin, decide_eq_true hin, Bool.true_and]
          by_cases ha : hasAdj ps[i].1 (sl f (bs ps i) ps[i].2.length) = true ∧ 8 ≤ ins ∧ ins < 12
          · rw [unadj_turn_in (by lia) ha.1 ha.2.1 ha.2.2, B i h]
            have := hasAdj_ge ha.1
            rw [hl] at this
            simp [this.1, this.2, ha.2.1, ha.2.2]
          · rw [unadj_turn_out (by lia) ha]
            have hne : csum (turnL (unadj ps[i].1 (sl f (bs ps i) ps[i].2.length)) ins nb) ≠ csum (unadj ps[i].1 (sl f (bs ps i) ps[i].2.length)) :=
              csum_turn (ob := f.getD sp 0) (by rw [unadj_get, if_neg ha, sl_get, if_pos hin, ← hsp]; exact hob) ne
            rw [B i h] at hne
            have h2 : (decide (ps[i].1 = "head") && (decide (12 ≤ ps[i].2.length) && (decide (8 ≤ ins) && decide (ins < 12)))) = false := by
              refine Bool.eq_false_iff.mpr fun z => ha ?_
              simp only [Bool.and_eq_true, decide_eq_true_eq] at z
              refine ⟨?_, z.2.2.1, z.2.2.2⟩
              unfold hasAdj
              rw [hl]; simp [z.1, z.2.1]
            rw [h2, B i h]
            simpa using hne
        · rw [out _ _ (by lia), B i h, decide_eq_false hin]; simp
      · rw [gd i h, out, B i h]
        · simp [q]
        · rcases Nat.lt_or_gt_of_ne q with q | q
          · exact .inr (Nat.le_trans (Nat.add_le_add_left (Nat.le_add_right _ _) _) (Nat.le_trans (bs_step q (Nat.le_of_lt hk)) (by rw [hsp]; exact Nat.le_add_right _ _)))
          · have := bs_step q (Nat.le_of_lt h); lia
section
variable {w : World} {A : Around} {E : Value → Shared → Prop} {hB hb h : Heap} {g : Array GenState} {d : Drawn} {tk : Nat} {os : OsState} {P l0 : Addr} {mg mb : Str → Option Value} {mean : ExcName → Option Value}
  {ns cns : List Str} {gs bs : List (Str × Value)} {news : List (Addr × Obj)} {cs : Scope} {xs : List Value} {ks : List Int}
theorem CellsAre.inv {cm : Str → Option Value} {n : Str} {c : Addr} {l : List (Str × Addr)} {cells : List (Addr × Obj)} (x : CellsAre cm ((n, c) :: l) cells) : ∃ o r, cells = (c, o) :: r ∧ o.data = .cell (cm n) ∧ CellsAre cm l r := by
  cases x with | cons e r => exact ⟨_, _, rfl, e, r⟩
theorem CellsAre.inv0 {cm : Str → Option Value} {cells : List (Addr × Obj)} (x : CellsAre cm [] cells) : cells = [] := by cases x; rfl
theorem CellsAre.seven {cm : Str → Option Value} {n1 n2 n3 n4 n5 n6 n7 : Str} {c1 c2 c3 c4 c5 c6 c7 : Addr} {cells : List (Addr × Obj)} (x : CellsAre cm [(n1, c1), (n2, c2), (n3, c3), (n4, c4), (n5, c5), (n6, c6), (n7, c7)] cells) :
    ∃ o1 o2 o3 o4 o5 o6 o7, cells = [(c1, o1), (c2, o2), (c3, o3), (c4, o4), (c5, o5), (c6, o6), (c7, o7)] ∧ o1.data = .cell (cm n1) ∧ o2.data = .cell (cm n2) ∧ o3.data = .cell (cm n3) ∧ o4.data = .cell (cm n4) ∧ o5.data = .cell (cm n5) ∧ o6.data = .cell (cm n6) ∧ o7.data = .cell (cm n7) := by
  refine prop_cut ?_; intro Pcut
  obtain ⟨o1, r1, q1, e1, x⟩ := inv x
  obtain ⟨o2, r2, q2, e2, x⟩ := inv x
  obtain ⟨o3, r3, q3, e3, x⟩ := inv x
  obtain ⟨o4, r4, q4, e4, x⟩ := inv x
  obtain ⟨o5, r5, q5, e5, x⟩ := inv x
  obtain ⟨o6, r6, q6, e6, x⟩ := inv x
  obtain ⟨o7, r7, q7, e7, x⟩ := inv x
  unfold Pcut
  exact ⟨_, _, _, _, _, _, _, by rw [q1, q2, q3, q4, q5, q6, q7, inv0 x], e1, e2, e3, e4, e5, e6, e7⟩
theorem callFCN {f : Addr} {qual : Str} {body : List Stmt} {cdv : Value} {params : List Str} {vals : List Value} {R : Flow → Shared → Prop} (D : Df w f qual body cs cdv params cns ns gs bs) (hk : kindOk cs params = true) (vs₀ : List (Option Value))
    (W : Wd w mg mb mean hb) (kb : Ext hb h) (hnew : ∀ p ∈ news, h.get? p.1 = some p.2 ∧ hb.get? p.1 = none) (hnd : (news.map (·.1)).Nodup) (hroom : A.depth < recursionLimit) (hlen : vals.length = params.length)
    (hvs : ∀ (i : Nat) (y : Str) (v : Value), ns[i]? = some y → vs₀[i]? = some (some v) → bindL (kOf cs) (params.zip vals) (fun _ => none) y = some v)
    (hbody : ∀ L h₁ tk₁ cells, Wd w mg mb mean (hideAll h (news.map (·.1))) → Ext hb (hideAll h (news.map (·.1))) → CellsAre (bindC (kOf cs) (params.zip vals) fun _ => none) (cellsFrom (L + 1) cs.names []) cells → Fm (hideAll h (news.map (·.1))) L ns vs₀ (cells ++ news) h₁ →
      wpR (Mo w) (A.deeper (envOfC qual cs L f cdv)) (execs body (envOfC qual cs L f cdv)) (fun fl s' => R (.ret (match fl with | .ret v => v | _ => .none)) s') ⟨h₁, g, d, tk₁, os⟩) :
    codeR (Mo w) A (.call (.ref f) ⟨vals, []⟩) R ⟨h, g, d, tk, os⟩ := by
  (wtm_at "pc")
  obtain ⟨oc, od, name, pr, dV, kV, doc, pm, an, ct, osl, ho, hbind⟩ := D.ho
  (wtm_at "pu")
  have X : (K w.params).In h := W.k.keeps kb
  have hkind : ∀ x ∈ params.zip vals, cs.names.lookup x.1 = some .local ∨ (cs.names.lookup x.1 = some .cell ∧ ((cellsFrom (h.objs.size + 1) cs.names []).lookup x.1).isSome = true) := by
    refine kindsX (List.all_eq_true.mpr fun y hy => ?_) _
    simp only [kindOk, Bool.and_eq_true] at hk
    exact List.all_eq_true.mp hk.1 _ (List.of_mem_zip (a := y.1) (b := y.2) hy).1
  refine codeR_tree rfl ?_
  show wpR _ A.in1 (callAny (.ref f) ⟨vals, []⟩) _ _
  refine wpR_lift (wpAny_mono (tree_callC (A := A.in1) (fd := fnOf name qual pr body cs dV kV doc pm an cdv ct) (body := body) (binds := params.zip vals) hroom (X _ _ ho) rfl ((W.t.nolimit).keeps kb) (codeRec_of X D.cd) rfl
    (hbind ⟨h, g, d, tk, os⟩ vals X hlen) rfl hkind D.fi.co D.fi.gen D.fi.kind) ?_ fun _ _ x => x)
  intro fin s' hJ0
  (wtm_at "pc")
  obtain ⟨rfl, I⟩ := hJ0
  (wtm_at "pu")
  refine ⟨rfl, codeR_func ?_⟩
  (wtm_at "pc")
  obtain ⟨h₁, tk₁, cells, rfl, Y, F⟩ := enterC (fd := fnOf name qual pr body cs dV kV doc pm an cdv ct) hk rfl vs₀ (fun p hp => (hnew p hp).1) hnd hvs I
  (wtm_at "pu")
  have hx := hide_ext kb fun p hp => (hnew p hp).2
  exact hbody h.objs.size h₁ tk₁ cells (W.keeps hx) hx Y F
theorem R_stN {st : Stmt} {r : List Stmt} {env : Env} {Q : Flow → Shared → Prop} {s : Shared} (h : wpAny (Mo w) A (exec st env) (fun f s' => f = .next ∧ wpR (Mo w) A (execs r env) Q s') (fun _ _ => False) s) : wpR (Mo w) A (execs (st :: r) env) Q s := R_st h
theorem TupN.sift {news news' : List (Addr × Obj)} {ys : List Value} {fs : List (Str × Str × Int)} (a : TupN news ys fs) (k : ∀ x zs, (x, tpO zs) ∈ news → (x, tpO zs) ∈ news') : TupN news' ys fs :=
  ⟨a.len, fun i v f e1 e2 => let ⟨x, t1, t2, t3, e, m⟩ := a.at_ i v f e1 e2; ⟨x, t1, t2, t3, e, k _ _ m⟩⟩
theorem tup_ne_list {x y : Addr} {zs : List Value} {o : Obj} (h : o.cls = .type "list") : (x, tpO zs) ≠ (y, o) := fun q => by
  rw [← (Prod.mk.inj q).2] at h
  simp at h
theorem tup_ne_cell {x y : Addr} {zs : List Value} {o : Obj} {v : Option Value} (h : o.data = .cell v) : (x, tpO zs) ≠ (y, o) := fun q => by
  rw [← (Prod.mk.inj q).2] at h
  cases h
theorem law_c {Q : Value → Shared → Prop} (W : Wd w mg mb mean hB) (kb : Ext hB h) (hP : h.get? P = some (tabObj #[])) (hPn : hB.get? P = none) (C : CodeHd hB 589 P) (R : Rm 17 A) (hh : A.handled = none) (hA : A.frames = some []) (hl : Ls hB l0 xs) (hk : IntsAre xs ks) (h6 : ks.length ≤ 63)
    (hq : ∀ h' tk', Ext (hideAll h [P]) h' → GrownAt P h' → Q (.bool true) ⟨h', g, d, tk', os⟩) : wpR (Mo w) A (call (.ref 590) [.ref l0]) Q ⟨h, g, d, tk, os⟩ := by
  refine wpR_call (callFCN (news := [(P, tabObj #[])]) (df_law w) (by kernel_rfl) [some (.ref l0), none, none, none, none, none, none, none, none, none, none] W kb (fun p hp => ?_) (by simp) R.room rfl (fun i y v hi hv => ?_) fun L h₁ tk₁ cells W kb Yc F => ?_)
  · obtain rfl := List.mem_singleton.mp hp; exact ⟨hP, hPn⟩
  · match i, hi, hv with
    | 0, hi, hv => cases hi; cases hv; kernel_rfl
    | 1, _, hv => cases hv
    | 2, _, hv => cases hv
    | 3, _, hv => cases hv
    | 4, _, hv => cases hv
    | 5, _, hv => cases hv
    | 6, _, hv => cases hv
    | 7, _, hv => cases hv
    | 8, _, hv => cases hv
    | 9, _, hv => cases hv
    | 10, _, hv => cases hv
    | n + 11, hi, _ => simp at hi
  have C := C.keeps kb
  have hl : Ls (hideAll h (List.map (·.1) [(P, tabObj #[])])) l0 xs := hl.ext kb
  have hh' : (A.deeper (envLaw L)).handled = none := hh
  have hA' : (A.deeper (envLaw L)).frames = some [envLaw L] := by
    show A.frames.map _ = _
    rw [hA]; rfl
  have R' : Rm 16 (A.deeper (envLaw L)) := R.deep
  rw [show cellsFrom (L + 1) (fnS (st 72)).names [] = ([("handed", L + 7), ("kept", L + 6), ("turned", L + 5), ("begins", L + 4), ("tags", L + 3), ("tables", L + 2), ("source", L + 1)] : List (Str × Addr)) by kernel_rfl] at Yc
  (wtm_at "pc")
  obtain ⟨o7, o6, o5, o4, o3, o2, o1, rfl, c7, c6, c5, c4, c3, c2, c1⟩ := CellsAre.seven Yc
  (wtm_at "pu")
  replace c1 : o1.data = .cell none := c1.trans (by kernel_rfl)
  replace c2 : o2.data = .cell none := c2.trans (by kernel_rfl)
  replace c3 : o3.data = .cell none := c3.trans (by kernel_rfl)
  replace c4 : o4.data = .cell none := c4.trans (by kernel_rfl)
  replace c5 : o5.data = .cell none := c5.trans (by kernel_rfl)
  replace c6 : o6.data = .cell none := c6.trans (by kernel_rfl)
  replace c7 : o7.data = .cell none := c7.trans (by kernel_rfl)
  generalize hG : hideAll h (List.map (·.1) [(P, tabObj #[])]) = hG at *
  rw [List.cons_append, List.cons_append, List.cons_append, List.cons_append, List.cons_append, List.cons_append, List.cons_append, List.nil_append] at F
  have F := F.perm (news' := (L + 1, o1) :: [(L + 2, o2), (L + 3, o3), (L + 4, o4), (L + 5, o5), (L + 6, o6), (L + 7, o7), (P, tabObj #[])]) (by wtm_at "pm")
  rw [lawBody]
  refine R_stN (law0 W R'.le hh' F c1 hl hk h6 fun h' o1 S oS CL oC t xs' ks' tk' F c1 hS hC hk0 k0 k6 => ?_)
  have F := F.perm (news' := (L + 2, o2) :: (L + 1, o1) :: (S, oS) :: (CL, oC) :: [(L + 3, o3), (L + 4, o4), (L + 5, o5), (L + 6, o6), (L + 7, o7), (P, tabObj #[])]) (by wtm_at "pm")
  refine R_stN (law1 W F c2 fun h' o2 T oT tk' F c2 hT lo => ?_)
  have F := F.perm (news' := (S, oS) :: (T, oT) :: [(L + 2, o2), (L + 1, o1), (CL, oC), (L + 3, o3), (L + 4, o4), (L + 5, o5), (L + 6, o6), (L + 7, o7), (P, tabObj #[])]) (by wtm_at "pm")
  refine R_stN (law2 (vl := [none, none, none, none, none, none, none, none, none]) rfl W R'.le hh' F (by wtm_at "mem") c1 (by wtm_at "mem") c2 (by wtm_at "mem") hC hk0 k0 (by lia) hS hT lo fun h' c oS t at_ oT kvs ps tk' F hS ha hT by_ G6 => ?_)
  have F := F.perm (news' := (L + 7, o7) :: [(S, oS), (T, oT), (L + 2, o2), (L + 1, o1), (CL, oC), (L + 3, o3), (L + 4, o4), (L + 5, o5), (L + 6, o6), (P, tabObj #[])]) (by wtm_at "pm")
  refine R_stN (law3 W F c7 fun h' o7 H tk' F c7 => ?_)
  have F := F.perm (news' := (P, tabObj #[]) :: [(L + 7, o7), (H, lsO [] 0), (S, oS), (T, oT), (L + 2, o2), (L + 1, o1), (CL, oC), (L + 3, o3), (L + 4, o4), (L + 5, o5), (L + 6, o6)]) (by wtm_at "pm")
  refine R_stN (law4 W F C fun h' rd c' oc fs t doc ctv pt tk' F hd hv => ?_)
  refine R_stN (law5 W F fun h' D tk' F => ?_)
  refine R_stN (law6 W R'.le hh' F (by wtm_at "mem") c2 (by wtm_at "mem") hT lo by_ fun h' v1 ys n more tk' F tn => ?_)
  have hf0 : (missF ps needL).length ≤ 10 := by
    have a := miss_len ps needL
    have e : needL.length = 5 := rfl
    lia
  refine R_stN (law7 W R'.le hh' F (List.mem_append_right _ (by wtm_at "mem")) c2 (List.mem_append_right _ (by wtm_at "mem")) hT lo by_ (tn.mono fun p hp => List.mem_append_left _ hp) hf0 fun h' v1 ys n more2 tk' F tn => ?_)
  refine R_cons (wpR_mono (law8 (v0 := some (.ref l0)) (v1 := v1) W R'.le hh' F (.tail _ (List.mem_append_right _ (List.mem_append_right _ (by wtm_at "mem")))) c2 (.tail _ (List.mem_append_right _ (List.mem_append_right _ (by wtm_at "mem")))) hT lo by_ G6.ok fun h' f t tk' F wr => ?_) fun f s' q => by obtain ⟨rfl, q⟩ := q; exact q)
  have F := F.perm (news' := (H, lsO [] 0) :: (S, oS) :: (L + 3, o3) :: (L + 4, o4) :: (L + 5, o5) :: (L + 6, o6) :: ((D, lsO ys n) :: (more2 ++ (more ++ [(rd, rdFn (L + 7) doc ((mg "__name__").getD .none) c' ctv), (c', oc), (P, tabObj pt), (L + 7, o7), (T, oT), (L + 2, o2), (L + 1, o1), (CL, oC)])))) (by wtm_at "pm")
  have up : ∀ p ∈ [(rd, rdFn (L + 7) doc ((mg "__name__").getD .none) c' ctv), (c', oc), (P, tabObj pt), (L + 7, o7), (T, oT), (L + 2, o2), (L + 1, o1), (CL, oC)], p ∈ ((D, lsO ys n) :: (more2 ++ (more ++ [(rd, rdFn (L + 7) doc ((mg "__name__").getD .none) c' ctv), (c', oc), (P, tabObj pt), (L + 7, o7), (T, oT), (L + 2, o2), (L + 1, o1), (CL, oC)]))) := fun p hp => .tail _ (List.mem_append_right _ (List.mem_append_right _ hp))
  refine wpR_lift (wpAny_mono (lawB (td := t) W R' hh' hA' F c3 c4 c5 c6 hS ha ⟨⟨o1, up _ (by wtm_at "mem"), c1⟩, ⟨oC, up _ (by wtm_at "mem"), hC⟩, hk0, k0, by lia⟩ (up _ (by wtm_at "mem")) c2 (up _ (by wtm_at "mem")) hT lo by_ G6
    ⟨⟨_, _, _, _, _, _, _, up _ (by wtm_at "mem"), up _ (by wtm_at "mem"), hd, hv⟩, ⟨o7, up _ (by wtm_at "mem"), c7⟩⟩ (.head _) ?_ (plain_of G6.ok wr) (K := fun s' => Q (.bool true) s') fun h' tk' news' vs' F => ?_) (fun f s' q => by obtain ⟨rfl, q⟩ := q; exact q) fun _ _ x => x)
  · refine tn.sift fun x zs m => ?_
    rcases List.mem_append.mp m with q | q
    · exact .tail _ (List.mem_append_left _ q)
    rcases List.mem_append.mp q with q | q
    · exact .tail _ (List.mem_append_right _ (List.mem_append_left _ q))
    refine up _ ?_
    simp only [List.mem_cons, List.not_mem_nil, or_false] at q ⊢
    rcases q with q | q | q | q | q | q | q | q | q | q | q | q | q | q
    · exact .inl q
    · exact .inr (.inl q)
    · exact .inr (.inr (.inl q))
    · exact .inr (.inr (.inr (.inl q)))
    · exact absurd q (tup_ne_list rfl)
    · exact absurd q (tup_ne_list hS.1)
    · exact .inr (.inr (.inr (.inr (.inl q))))
    · exact absurd q (tup_ne_cell c2)
    · exact absurd q (tup_ne_cell c1)
    · exact .inr (.inr (.inr (.inr (.inr (.inr (.inr q))))))
    · exact absurd q (tup_ne_cell c3)
    · exact absurd q (tup_ne_cell c4)
    · exact absurd q (tup_ne_cell c5)
    · exact absurd q (tup_ne_cell c6)
  · refine hq _ _ ?_ ⟨pt, F.get (List.mem_append_right _ (up _ (by wtm_at "mem")))⟩
    have := F.keep
    rw [← hG] at this; exact this
end
theorem args_of {cl : Str → Option Addr} {h : Heap} {args : List WData} {vals : List Value} {as : List Addr} (hpre : row0.claim.pre args = true) (hlay : WData.layableAll args = true) (hrd : ReadsAllW row0.records cl h vals args as) :
    ∃ l0 xs ks, vals = [.ref l0] ∧ h.IsList l0 (List.toArray xs) ∧ IntsAre xs ks ∧ ks.length ≤ 63 := by
  w_on
  have hsh := (pre_splitW hpre).1
  have hcond := (pre_splitW hpre).2
  wrow_hasAll hsh hlay
  have hc := readsAllW_cons_inv hrd
  clear hrd
  (wtm_at "pc")
  obtain ⟨_, _, _, _, he, ha, r1, hr⟩ := hc
  (wtm_at "pu")
  subst he; subst ha
  have r0 := reads_of_readsW _ r1
  row_read r0
  have he := (readsAllW_nil_inv hr).1
  subst he
  clear hpre
  w_cond hcond
  exact ⟨_, _, _, rfl, by assumption, by assumption, by lia⟩
theorem tabK (P : Params) : tabIn (K P) "law" = some (589, 587) := by kernel_rfl
theorem noTabsK (P : Params) : noTabs (K P) = true := by kernel_rfl
theorem lawRec : (recsOf qv).find? (fun e => e.name == ("law" : Str)) = some dlaw := by kernel_rfl
theorem good_true {cl : Str → Option Addr} {mean : ExcName → Option Value} {args : List WData} {s₁ s' : Shared} {c P : Addr} (hc : CodeHd s₁.heap c P) (hP : s₁.heap.get? P = some (tabObj #[])) (k : Ext (hideAll s₁.heap [P]) s'.heap) (hg : GrownAt P s'.heap) (hos : s'.os = s₁.os) (hgs : s'.gens = #[]) :
    GoodWG row0.claim cl mean args s₁ (.ok (.ret (.bool true))) s' := by
  obtain ⟨ps, hps⟩ := hg
  have keep : ∀ b o, b ≠ P → s₁.heap.get? b = some o → s'.heap.get? b = some o := fun b o hb e => k b o (hideAll_get _ e (by simpa using hb))
  refine ⟨.inl ⟨_, .bool true, [], rfl, fun cls => ?_, ?_, ?_, fun _ => ⟨by simp, fun a ha => nomatch ha⟩⟩, ⟨fun b o e => ?_, fun b o e => ?_⟩, hos, .of_eq ?_⟩
  · exact raisesW_false (r := row0) (fun ct h => nomatch (show ct ∈ ([] : List (ExcName × WTm)) from h)) cls
  · exact .bool true
  · exact postW_of (r := row0) (by kernel_rfl) (show (WTm.eq .res (.lit (.bool true))).value row0.records { args := args, res := some (WData.bool true), after := args } = some (.bool (true == true)) by wtm_val) rfl
  · by_cases hb : b = P
    · subst hb
      rw [hP] at e; cases e
      exact .inr (.inl ⟨(hc.tab hP).isCodeTable, rfl, #[], ps, rfl, by rw [Array.empty_append]; exact hps⟩)
    · exact .inl (keep b o hb e)
  · by_cases hb : b = P
    · subst hb; exact ⟨_, hps⟩
    · exact ⟨o, keep b o hb e⟩
  · exact hgs
theorem walkR : WalkR := by
  intro w s₀ s₁ mg mb G Y hgs args vals as hpre hlay hrd
  (wtm_at "pc")
  obtain ⟨l0, xs, ks, rfl, hl, hk, h63⟩ := args_of hpre hlay hrd
  (wtm_at "pu")
  have KX : (K w.params).In s₁.heap := kIn_of Y
  have T := G.T
  obtain ⟨C, hP⟩ := tab_of (x := "law") T KX lawRec (tabK w.params)
  have hT : TabsAt [(589, 587)] s₁.heap := fun q hq => by obtain rfl := List.mem_singleton.mp hq; exact ⟨C, hP⟩
  have W : Wd w mg mb (ExcName.means s₀.heap) (hideAll s₁.heap [587]) := ⟨ghost_K hT KX (noTabsK w.params), ghost_top hT T⟩
  have CG : CodeHd (hideAll s₁.heap [587]) 589 587 := (ghost_code hT).1
  have hLs : Ls (hideAll s₁.heap [587]) l0 xs := ghost_list hT hl
  (wtm_at "pc")
  obtain ⟨h, g, d, tk, os⟩ := s₁
  (wtm_at "pu")
  refine law_c W (fun b o e => of_hideAll _ e) hP (hideAll_none _ (by simp)) CG ⟨by decide +kernel, by decide +kernel⟩ rfl rfl hLs hk h63 fun h' tk' k gr => ?_
  exact good_true C hP k gr rfl hgs
theorem law_holds : PySem.Challenge.rw_pb0201_01.Holds := headR walkR
end Mine
theorem PySem.Challenge.cw_pb0201_01_holds : PySem.Challenge.rw_pb0201_01.Holds := by
  exact Mine.law_holds
