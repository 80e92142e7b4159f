import PyProof.Rows.All
import Wide.All
import OpenK.AllK
import Wide.FinOn
import PySem.Challenge.RW_pf0391_01
open PySem PySem.W PyProof.Rows PySem.Calls
set_option Elab.async false
set_option compiler.extract_closed false
universe u v
namespace Mine
set_option linter.unusedVariables false
set_option genSizeOfSpec false
section
set_option maxRecDepth 100000
set_option maxHeartbeats 8000000
namespace Top
noncomputable abbrev Pg : Program := PySem.Challenge.rw_pf0391_01.row.toRowW.1
noncomputable def nth : Nat → List Stmt → Stmt
  | _, [] => .Pass ⟨0, 0, 0, 0⟩
  | 0, x :: _ => x
  | n + 1, _ :: l => nth n l
noncomputable def sub (j : Nat) : Stmt → Stmt
  | .ClassDef _ _ _ b _ _ _ _ _ _ _ => nth j b
  | s => s
noncomputable def fnOf (s : Stmt) (q : Str) (g : Addr) (cl : List (Str × Addr)) (df kd dc md : Value) (an : Option Addr) (cd ct : Value) (bt : Addr) : FuncData := match s with
  | .FunctionDef nm a b _ _ _ sc _ _ _ => ⟨nm, q, a, .stmts b, sc, g, cl, df, kd, dc, md, an, cd, ct, bt⟩
  | _ => default
noncomputable abbrev fn (i j : Nat) (q : Str) (g : Addr) (cl : List (Str × Addr)) (df kd dc md : Value) (an : Option Addr) (cd ct : Value) (bt : Addr) : FuncData := fnOf (sub j (nth i Pg.main.body)) q g cl df kd dc md an cd ct bt
noncomputable abbrev ky (P : Params) (s : Str) (t : Tok) (v : Value) : DictEntry := ⟨PySem.PyData.keyHash P s, .str s t, v⟩
noncomputable def o43 (P : Params) : Obj := ⟨.type "tuple", .none, .seq ⟨[]⟩ 0, ⟨[]⟩⟩
noncomputable def o44 (P : Params) : Obj := ⟨.none, .none, .fields ⟨[]⟩, ⟨[]⟩⟩
noncomputable def o45 (P : Params) : Obj := ⟨.type "code", .none, .fields ⟨[.str "<module>" 182, .str "<module>" 183, .str "/claim/cut.py" 184, .int 1 0, .int 0 0, .int 0 0, .int 0 0, .int 0 0, .ref 11, .bool .false, .int 181 0, .ref 12, .none, .none, .none, .none, .int 185 0, .int 1 0, .str "/claim/cut.py" 186]⟩, ⟨[]⟩⟩
noncomputable def o46 (P : Params) : Obj := ⟨.type "frame", .none, .plain, ⟨[.some (.ref 13), .some (.ref 3), .some (.ref 3), .none, .some (.str "__main__" 164), .none, .some (.ref 0)]⟩⟩
noncomputable def o49 (P : Params) : Obj := ⟨.none, .none, .dict ⟨[ky P "type.__subclasses__.Exception.0" 221 (.int 38 0), ky P "type.__subclasses__.Exception.n" 222 (.int 1 0)]⟩ 2, ⟨[]⟩⟩
noncomputable def o50 (P : Params) : Obj := ⟨.type "dict", .none, .dict ⟨[ky P "__name__" 165 (.str "switchloom.errors" 194), ky P "__doc__" 166 .none, ky P "__package__" 167 .none, ky P "__loader__" 168 (.builtin "__main__.__loader__#opaque"), ky P "__spec__" 169 .none, ky P "__annotations__" 170 (.ref 6), ky P "__builtins__" 171 (.ref 4), ky P "__file__" 173 (.str "/claim/cut.py" 172), ky P "__cached__" 174 .none, ky P "_wall" 193 (.ref 21), ky P "SwitchError" 224 (.ref 38)]⟩ 11, ⟨[]⟩⟩
noncomputable def o51 (P : Params) : Obj := ⟨.none, .none, .fields ⟨[.int 1 0, .int 0 0, .ref 20, .int 5 0, .int 0 0, .ref 27]⟩, ⟨[]⟩⟩
noncomputable def o52 (P : Params) : Obj := ⟨.type "tuple", .none, .seq ⟨[]⟩ 0, ⟨[]⟩⟩
noncomputable def o53 (P : Params) : Obj := ⟨.none, .none, .fields ⟨[]⟩, ⟨[]⟩⟩
noncomputable def o54 (P : Params) : Obj := ⟨.type "tuple", .none, .seq ⟨[.str "k" 190]⟩ 0, ⟨[]⟩⟩
noncomputable def o55 (P : Params) : Obj := ⟨.type "tuple", .none, .seq ⟨[]⟩ 0, ⟨[]⟩⟩
noncomputable def o56 (P : Params) : Obj := ⟨.none, .none, .func (fn 0 0 "_wall" 0 [] .none .none .none .none .none .none .none 0), ⟨[]⟩⟩
noncomputable def o57 (P : Params) : Obj := ⟨.type "code", .none, .fields ⟨[.str "_wall" 187, .str "_wall" 188, .str "/claim/cut.py" 189, .int 1 0, .int 1 0, .int 0 0, .int 0 0, .int 3 0, .ref 15, .bool .true, .int 181 0, .ref 16, .none, .ref 17, .ref 18, .ref 19, .int 191 0, .int 1 0, .str "/claim/cut.py" 192]⟩, ⟨[]⟩⟩
noncomputable def o58 (P : Params) : Obj := ⟨.type "function", .none, .func (fn 0 0 "_wall" 3 [] .none .none .none (.str "__main__" 164) .none (.ref 20) .none 0), ⟨[]⟩⟩
noncomputable def o59 (P : Params) : Obj := ⟨.type "tuple", .none, .seq ⟨[.type "Exception"]⟩ 0, ⟨[]⟩⟩
noncomputable def o60 (P : Params) : Obj := ⟨.type "builtin_function_or_method", .none, .fields ⟨[.builtin "type.__prepare__", .type "type"]⟩, ⟨[]⟩⟩
noncomputable def o61 (P : Params) : Obj := ⟨.type "dict", .none, .dict ⟨[ky P "__module__" 203 (.str "switchloom.errors" 194), ky P "__qualname__" 205 (.str "SwitchError" 204), ky P "__firstlineno__" 207 (.int 5 206), ky P "__init__" 215 (.ref 35), ky P "__static_attributes__" 217 (.ref 36)]⟩ 5, ⟨[]⟩⟩
noncomputable def o62 (P : Params) : Obj := ⟨.type "tuple", .none, .seq ⟨[]⟩ 0, ⟨[]⟩⟩
noncomputable def o63 (P : Params) : Obj := ⟨.none, .none, .fields ⟨[.int 7 0, .int 4 0, .ref 34]⟩, ⟨[]⟩⟩
noncomputable def o64 (P : Params) : Obj := ⟨.type "code", .none, .fields ⟨[.str "SwitchError" 198, .str "SwitchError" 199, .str "/claim/cut.py" 200, .int 5 0, .int 0 0, .int 0 0, .int 0 0, .int 0 0, .ref 25, .bool .false, .int 181 0, .ref 26, .none, .none, .none, .none, .int 201 0, .int 5 0, .str "/claim/cut.py" 202]⟩, ⟨[]⟩⟩
noncomputable def o65 (P : Params) : Obj := ⟨.type "frame", .none, .plain, ⟨[.some (.ref 27), .some (.ref 3), .some (.ref 24), .none, .some (.str "switchloom.errors" 194), .none, .some (.ref 0)]⟩⟩
noncomputable def o66 (P : Params) : Obj := ⟨.type "tuple", .none, .seq ⟨[]⟩ 0, ⟨[]⟩⟩
noncomputable def o67 (P : Params) : Obj := ⟨.none, .none, .fields ⟨[]⟩, ⟨[]⟩⟩
noncomputable def o68 (P : Params) : Obj := ⟨.type "tuple", .none, .seq ⟨[.str "self" 211, .str "message" 212]⟩ 0, ⟨[]⟩⟩
noncomputable def o69 (P : Params) : Obj := ⟨.type "tuple", .none, .seq ⟨[]⟩ 0, ⟨[]⟩⟩
noncomputable def o70 (P : Params) : Obj := ⟨.none, .none, .func (fn 2 0 "SwitchError.__init__" 0 [] .none .none .none .none .none .none .none 0), ⟨[]⟩⟩
noncomputable def o71 (P : Params) : Obj := ⟨.type "code", .none, .fields ⟨[.str "__init__" 208, .str "SwitchError.__init__" 209, .str "/claim/cut.py" 210, .int 7 0, .int 2 0, .int 0 0, .int 0 0, .int 3 0, .ref 29, .bool .true, .int 181 0, .ref 30, .none, .ref 31, .ref 32, .ref 33, .int 213 0, .int 7 0, .str "/claim/cut.py" 214]⟩, ⟨[]⟩⟩
noncomputable def o72 (P : Params) : Obj := ⟨.type "function", .none, .func (fn 2 0 "SwitchError.__init__" 3 [] .none .none .none (.str "switchloom.errors" 194) .none (.ref 34) .none 0), ⟨[]⟩⟩
noncomputable def o73 (P : Params) : Obj := ⟨.type "tuple", .none, .seq ⟨[.str "message" 216]⟩ 0, ⟨[]⟩⟩
noncomputable def o74 (P : Params) : Obj := ⟨.type "dict", .none, .dict ⟨[ky P "__module__" 203 (.str "switchloom.errors" 194), ky P "__firstlineno__" 207 (.int 5 206), ky P "__init__" 215 (.ref 35), ky P "__static_attributes__" 217 (.ref 36), ky P "__weakref__" 219 (.ref 39), ky P "__doc__" 220 .none]⟩ 3, ⟨[]⟩⟩
noncomputable def o75 (P : Params) : Obj := ⟨.type "type", .none, .cls ⟨"SwitchError", [.type "Exception"], [.ref 38, .type "Exception", .type "BaseException", .type "object"], 37, "SwitchError", .true, [], [], .false, .none, .false⟩, ⟨[.some (.ref 22), .none, .some (.str "SwitchError" 196), .some (.str "SwitchError" 204), .some (.builtin "Exception.__new__"), .some (.bool .true)]⟩⟩
noncomputable def o76 (P : Params) : Obj := ⟨.type "getset_descriptor", .none, .fields ⟨[.str "__weakref__" 218, .ref 38, .builtin "ExceptionGroup.__weakref__", .none]⟩, ⟨[]⟩⟩
noncomputable def o77 (P : Params) : Obj := ⟨.type "super", .none, .fields ⟨[.ref 38, .ref 38, .ref 38]⟩, ⟨[]⟩⟩
noncomputable def o78 (P : Params) : Obj := ⟨.type "builtin_function_or_method", .none, .fields ⟨[.builtin "object.__init_subclass__", .ref 38]⟩, ⟨[]⟩⟩
noncomputable def o79 (P : Params) : Obj := ⟨.type "dict", .none, .dict ⟨[ky P "__name__" 165 (.str "switchloom.queues" 252), ky P "__doc__" 166 .none, ky P "__package__" 167 .none, ky P "__loader__" 168 (.builtin "__main__.__loader__#opaque"), ky P "__spec__" 169 .none, ky P "__annotations__" 170 (.ref 6), ky P "__builtins__" 171 (.ref 4), ky P "__file__" 173 (.str "/claim/cut.py" 172), ky P "__cached__" 174 .none, ky P "_wall" 193 (.ref 21), ky P "SwitchError" 224 (.ref 38), ky P "SettingError" 251 (.ref 59)]⟩ 12, ⟨[]⟩⟩
noncomputable def o80 (P : Params) : Obj := ⟨.none, .none, .fields ⟨[.int 1 0, .int 0 0, .ref 20, .int 5 0, .int 0 0, .ref 27, .int 10 0, .int 0 0, .ref 47]⟩, ⟨[]⟩⟩
noncomputable def o81 (P : Params) : Obj := ⟨.type "type", .none, .cls ⟨"SwitchError", [.type "Exception"], [.ref 38, .type "Exception", .type "BaseException", .type "object"], 37, "SwitchError", .true, [], [.ref 59], .false, .none, .false⟩, ⟨[.some (.ref 22), .none, .some (.str "SwitchError" 196), .some (.str "SwitchError" 204), .some (.builtin "Exception.__new__"), .some (.bool .true)]⟩⟩
noncomputable def o82 (P : Params) : Obj := ⟨.type "tuple", .none, .seq ⟨[.ref 38]⟩ 0, ⟨[]⟩⟩
noncomputable def o83 (P : Params) : Obj := ⟨.type "builtin_function_or_method", .none, .fields ⟨[.builtin "type.__prepare__", .type "type"]⟩, ⟨[]⟩⟩
noncomputable def o84 (P : Params) : Obj := ⟨.type "dict", .none, .dict ⟨[ky P "__module__" 232 (.str "switchloom.errors" 194), ky P "__qualname__" 234 (.str "SettingError" 233), ky P "__firstlineno__" 236 (.int 10 235), ky P "__init__" 246 (.ref 56), ky P "__static_attributes__" 248 (.ref 57)]⟩ 5, ⟨[]⟩⟩
noncomputable def o85 (P : Params) : Obj := ⟨.type "tuple", .none, .seq ⟨[]⟩ 0, ⟨[]⟩⟩
noncomputable def o86 (P : Params) : Obj := ⟨.none, .none, .fields ⟨[.int 12 0, .int 4 0, .ref 55]⟩, ⟨[]⟩⟩
noncomputable def o87 (P : Params) : Obj := ⟨.type "code", .none, .fields ⟨[.str "SettingError" 227, .str "SettingError" 228, .str "/claim/cut.py" 229, .int 10 0, .int 0 0, .int 0 0, .int 0 0, .int 0 0, .ref 45, .bool .false, .int 181 0, .ref 46, .none, .none, .none, .none, .int 230 0, .int 10 0, .str "/claim/cut.py" 231]⟩, ⟨[]⟩⟩
noncomputable def o88 (P : Params) : Obj := ⟨.type "frame", .none, .plain, ⟨[.some (.ref 47), .some (.ref 3), .some (.ref 44), .none, .some (.str "switchloom.errors" 194), .none, .some (.ref 0)]⟩⟩
noncomputable def o89 (P : Params) : Obj := ⟨.type "tuple", .none, .seq ⟨[.int 0 237]⟩ 0, ⟨[]⟩⟩
noncomputable def o90 (P : Params) : Obj := ⟨.type "tuple", .none, .seq ⟨[]⟩ 0, ⟨[]⟩⟩
noncomputable def o91 (P : Params) : Obj := ⟨.none, .none, .fields ⟨[]⟩, ⟨[]⟩⟩
noncomputable def o92 (P : Params) : Obj := ⟨.type "tuple", .none, .seq ⟨[.str "self" 241, .str "message" 242, .str "row" 243]⟩ 0, ⟨[]⟩⟩
noncomputable def o93 (P : Params) : Obj := ⟨.type "tuple", .none, .seq ⟨[]⟩ 0, ⟨[]⟩⟩
noncomputable def o94 (P : Params) : Obj := ⟨.none, .none, .func (fn 3 0 "SettingError.__init__" 0 [] .none .none .none .none .none .none .none 0), ⟨[]⟩⟩
noncomputable def o95 (P : Params) : Obj := ⟨.type "code", .none, .fields ⟨[.str "__init__" 238, .str "SettingError.__init__" 239, .str "/claim/cut.py" 240, .int 12 0, .int 3 0, .int 0 0, .int 0 0, .int 3 0, .ref 50, .bool .true, .int 181 0, .ref 51, .none, .ref 52, .ref 53, .ref 54, .int 244 0, .int 12 0, .str "/claim/cut.py" 245]⟩, ⟨[]⟩⟩
noncomputable def o96 (P : Params) : Obj := ⟨.type "function", .none, .func (fn 3 0 "SettingError.__init__" 3 [] (.ref 49) .none .none (.str "switchloom.errors" 194) .none (.ref 55) .none 0), ⟨[]⟩⟩
noncomputable def o97 (P : Params) : Obj := ⟨.type "tuple", .none, .seq ⟨[.str "row" 247]⟩ 0, ⟨[]⟩⟩
noncomputable def o98 (P : Params) : Obj := ⟨.type "dict", .none, .dict ⟨[ky P "__module__" 232 (.str "switchloom.errors" 194), ky P "__firstlineno__" 236 (.int 10 235), ky P "__init__" 246 (.ref 56), ky P "__static_attributes__" 248 (.ref 57), ky P "__doc__" 249 .none]⟩ 2, ⟨[]⟩⟩
noncomputable def o99 (P : Params) : Obj := ⟨.type "type", .none, .cls ⟨"SettingError", [.ref 38], [.ref 59, .ref 38, .type "Exception", .type "BaseException", .type "object"], 58, "SettingError", .true, [], [], .false, .none, .false⟩, ⟨[.some (.ref 42), .none, .some (.str "SettingError" 225), .some (.str "SettingError" 233), .some (.builtin "Exception.__new__"), .some (.bool .true)]⟩⟩
noncomputable def o100 (P : Params) : Obj := ⟨.type "super", .none, .fields ⟨[.ref 59, .ref 59, .ref 59]⟩, ⟨[]⟩⟩
noncomputable def o101 (P : Params) : Obj := ⟨.type "builtin_function_or_method", .none, .fields ⟨[.builtin "object.__init_subclass__", .ref 59]⟩, ⟨[]⟩⟩
noncomputable def o102 (P : Params) : Obj := ⟨.type "dict", .none, .dict ⟨[ky P "__name__" 165 (.str "switchloom.queues" 252), ky P "__doc__" 166 .none, ky P "__package__" 167 .none, ky P "__loader__" 168 (.builtin "__main__.__loader__#opaque"), ky P "__spec__" 169 .none, ky P "__annotations__" 170 (.ref 6), ky P "__builtins__" 171 (.ref 4), ky P "__file__" 173 (.str "/claim/cut.py" 172), ky P "__cached__" 174 .none, ky P "_wall" 193 (.ref 21), ky P "SwitchError" 224 (.ref 38), ky P "SettingError" 251 (.ref 59), ky P "QueueRow" 318 (.ref 106), ky P "may_go" 327 (.ref 117)]⟩ 14, ⟨[]⟩⟩
noncomputable def o103 (P : Params) : Obj := ⟨.none, .none, .fields ⟨[.int 1 0, .int 0 0, .ref 20, .int 5 0, .int 0 0, .ref 27, .int 10 0, .int 0 0, .ref 47, .int 16 0, .int 0 0, .ref 67, .int 45 0, .int 0 0, .ref 116]⟩, ⟨[]⟩⟩
noncomputable def o104 (P : Params) : Obj := ⟨.type "tuple", .none, .seq ⟨[]⟩ 0, ⟨[]⟩⟩
noncomputable def o105 (P : Params) : Obj := ⟨.type "builtin_function_or_method", .none, .fields ⟨[.builtin "type.__prepare__", .type "type"]⟩, ⟨[]⟩⟩
noncomputable def o106 (P : Params) : Obj := ⟨.type "dict", .none, .dict ⟨[ky P "__module__" 261 (.str "switchloom.queues" 252), ky P "__qualname__" 263 (.str "QueueRow" 262), ky P "__firstlineno__" 265 (.int 16 264), ky P "__init__" 274 (.ref 75), ky P "put" 283 (.ref 82), ky P "is_empty" 290 (.ref 89), ky P "head_size" 297 (.ref 96), ky P "take" 305 (.ref 103), ky P "__static_attributes__" 311 (.ref 104)]⟩ 9, ⟨[]⟩⟩
noncomputable def o107 (P : Params) : Obj := ⟨.type "tuple", .none, .seq ⟨[]⟩ 0, ⟨[]⟩⟩
noncomputable def o108 (P : Params) : Obj := ⟨.none, .none, .fields ⟨[.int 18 0, .int 4 0, .ref 74, .int 27 0, .int 4 0, .ref 81, .int 35 0, .int 4 0, .ref 88, .int 38 0, .int 4 0, .ref 95, .int 41 0, .int 4 0, .ref 102]⟩, ⟨[]⟩⟩
noncomputable def o109 (P : Params) : Obj := ⟨.type "code", .none, .fields ⟨[.str "QueueRow" 256, .str "QueueRow" 257, .str "/claim/cut.py" 258, .int 16 0, .int 0 0, .int 0 0, .int 0 0, .int 0 0, .ref 65, .bool .false, .int 181 0, .ref 66, .none, .none, .none, .none, .int 259 0, .int 16 0, .str "/claim/cut.py" 260]⟩, ⟨[]⟩⟩
noncomputable def o110 (P : Params) : Obj := ⟨.type "frame", .none, .plain, ⟨[.some (.ref 67), .some (.ref 3), .some (.ref 64), .none, .some (.str "switchloom.queues" 252), .none, .some (.ref 0)]⟩⟩
noncomputable def o111 (P : Params) : Obj := ⟨.type "tuple", .none, .seq ⟨[]⟩ 0, ⟨[]⟩⟩
noncomputable def o112 (P : Params) : Obj := ⟨.none, .none, .fields ⟨[]⟩, ⟨[]⟩⟩
noncomputable def o113 (P : Params) : Obj := ⟨.type "tuple", .none, .seq ⟨[.str "self" 269, .str "most" 270, .str "most_octets" 271]⟩ 0, ⟨[]⟩⟩
noncomputable def o114 (P : Params) : Obj := ⟨.type "tuple", .none, .seq ⟨[]⟩ 0, ⟨[]⟩⟩
noncomputable def o115 (P : Params) : Obj := ⟨.none, .none, .func (fn 5 0 "QueueRow.__init__" 0 [] .none .none .none .none .none .none .none 0), ⟨[]⟩⟩
noncomputable def o116 (P : Params) : Obj := ⟨.type "code", .none, .fields ⟨[.str "__init__" 266, .str "QueueRow.__init__" 267, .str "/claim/cut.py" 268, .int 18 0, .int 3 0, .int 0 0, .int 0 0, .int 3 0, .ref 69, .bool .true, .int 181 0, .ref 70, .none, .ref 71, .ref 72, .ref 73, .int 272 0, .int 18 0, .str "/claim/cut.py" 273]⟩, ⟨[]⟩⟩
noncomputable def o117 (P : Params) : Obj := ⟨.type "function", .none, .func (fn 5 0 "QueueRow.__init__" 3 [] .none .none .none (.str "switchloom.queues" 252) .none (.ref 74) .none 0), ⟨[]⟩⟩
noncomputable def o118 (P : Params) : Obj := ⟨.type "tuple", .none, .seq ⟨[]⟩ 0, ⟨[]⟩⟩
noncomputable def o119 (P : Params) : Obj := ⟨.none, .none, .fields ⟨[]⟩, ⟨[]⟩⟩
noncomputable def o120 (P : Params) : Obj := ⟨.type "tuple", .none, .seq ⟨[.str "self" 278, .str "size" 279, .str "thing" 280]⟩ 0, ⟨[]⟩⟩
noncomputable def o121 (P : Params) : Obj := ⟨.type "tuple", .none, .seq ⟨[]⟩ 0, ⟨[]⟩⟩
noncomputable def o122 (P : Params) : Obj := ⟨.none, .none, .func (fn 5 1 "QueueRow.put" 0 [] .none .none .none .none .none .none .none 0), ⟨[]⟩⟩
noncomputable def o123 (P : Params) : Obj := ⟨.type "code", .none, .fields ⟨[.str "put" 275, .str "QueueRow.put" 276, .str "/claim/cut.py" 277, .int 27 0, .int 3 0, .int 0 0, .int 0 0, .int 3 0, .ref 76, .bool .true, .int 181 0, .ref 77, .none, .ref 78, .ref 79, .ref 80, .int 281 0, .int 27 0, .str "/claim/cut.py" 282]⟩, ⟨[]⟩⟩
noncomputable def o124 (P : Params) : Obj := ⟨.type "function", .none, .func (fn 5 1 "QueueRow.put" 3 [] .none .none .none (.str "switchloom.queues" 252) .none (.ref 81) .none 0), ⟨[]⟩⟩
noncomputable def o125 (P : Params) : Obj := ⟨.type "tuple", .none, .seq ⟨[]⟩ 0, ⟨[]⟩⟩
noncomputable def o126 (P : Params) : Obj := ⟨.none, .none, .fields ⟨[]⟩, ⟨[]⟩⟩
noncomputable def o127 (P : Params) : Obj := ⟨.type "tuple", .none, .seq ⟨[.str "self" 287]⟩ 0, ⟨[]⟩⟩
noncomputable def o128 (P : Params) : Obj := ⟨.type "tuple", .none, .seq ⟨[]⟩ 0, ⟨[]⟩⟩
noncomputable def o129 (P : Params) : Obj := ⟨.none, .none, .func (fn 5 2 "QueueRow.is_empty" 0 [] .none .none .none .none .none .none .none 0), ⟨[]⟩⟩
noncomputable def o130 (P : Params) : Obj := ⟨.type "code", .none, .fields ⟨[.str "is_empty" 284, .str "QueueRow.is_empty" 285, .str "/claim/cut.py" 286, .int 35 0, .int 1 0, .int 0 0, .int 0 0, .int 3 0, .ref 83, .bool .true, .int 181 0, .ref 84, .none, .ref 85, .ref 86, .ref 87, .int 288 0, .int 35 0, .str "/claim/cut.py" 289]⟩, ⟨[]⟩⟩
noncomputable def o131 (P : Params) : Obj := ⟨.type "function", .none, .func (fn 5 2 "QueueRow.is_empty" 3 [] .none .none .none (.str "switchloom.queues" 252) .none (.ref 88) .none 0), ⟨[]⟩⟩
noncomputable def o132 (P : Params) : Obj := ⟨.type "tuple", .none, .seq ⟨[]⟩ 0, ⟨[]⟩⟩
noncomputable def o133 (P : Params) : Obj := ⟨.none, .none, .fields ⟨[]⟩, ⟨[]⟩⟩
noncomputable def o134 (P : Params) : Obj := ⟨.type "tuple", .none, .seq ⟨[.str "self" 294]⟩ 0, ⟨[]⟩⟩
noncomputable def o135 (P : Params) : Obj := ⟨.type "tuple", .none, .seq ⟨[]⟩ 0, ⟨[]⟩⟩
noncomputable def o136 (P : Params) : Obj := ⟨.none, .none, .func (fn 5 3 "QueueRow.head_size" 0 [] .none .none .none .none .none .none .none 0), ⟨[]⟩⟩
noncomputable def o137 (P : Params) : Obj := ⟨.type "code", .none, .fields ⟨[.str "head_size" 291, .str "QueueRow.head_size" 292, .str "/claim/cut.py" 293, .int 38 0, .int 1 0, .int 0 0, .int 0 0, .int 3 0, .ref 90, .bool .true, .int 181 0, .ref 91, .none, .ref 92, .ref 93, .ref 94, .int 295 0, .int 38 0, .str "/claim/cut.py" 296]⟩, ⟨[]⟩⟩
noncomputable def o138 (P : Params) : Obj := ⟨.type "function", .none, .func (fn 5 3 "QueueRow.head_size" 3 [] .none .none .none (.str "switchloom.queues" 252) .none (.ref 95) .none 0), ⟨[]⟩⟩
noncomputable def o139 (P : Params) : Obj := ⟨.type "tuple", .none, .seq ⟨[]⟩ 0, ⟨[]⟩⟩
noncomputable def o140 (P : Params) : Obj := ⟨.none, .none, .fields ⟨[]⟩, ⟨[]⟩⟩
noncomputable def o141 (P : Params) : Obj := ⟨.type "tuple", .none, .seq ⟨[.str "self" 301, .str "found" 302]⟩ 0, ⟨[]⟩⟩
noncomputable def o142 (P : Params) : Obj := ⟨.type "tuple", .none, .seq ⟨[]⟩ 0, ⟨[]⟩⟩
noncomputable def o143 (P : Params) : Obj := ⟨.none, .none, .func (fn 5 4 "QueueRow.take" 0 [] .none .none .none .none .none .none .none 0), ⟨[]⟩⟩
noncomputable def o144 (P : Params) : Obj := ⟨.type "code", .none, .fields ⟨[.str "take" 298, .str "QueueRow.take" 299, .str "/claim/cut.py" 300, .int 41 0, .int 1 0, .int 0 0, .int 0 0, .int 3 0, .ref 97, .bool .true, .int 181 0, .ref 98, .none, .ref 99, .ref 100, .ref 101, .int 303 0, .int 41 0, .str "/claim/cut.py" 304]⟩, ⟨[]⟩⟩
noncomputable def o145 (P : Params) : Obj := ⟨.type "function", .none, .func (fn 5 4 "QueueRow.take" 3 [] .none .none .none (.str "switchloom.queues" 252) .none (.ref 102) .none 0), ⟨[]⟩⟩
noncomputable def o146 (P : Params) : Obj := ⟨.type "tuple", .none, .seq ⟨[.str "dropped" 306, .str "most" 307, .str "most_octets" 308, .str "octets" 309, .str "things" 310]⟩ 0, ⟨[]⟩⟩
noncomputable def o147 (P : Params) : Obj := ⟨.type "dict", .none, .dict ⟨[ky P "__module__" 261 (.str "switchloom.queues" 252), ky P "__firstlineno__" 265 (.int 16 264), ky P "__init__" 274 (.ref 75), ky P "put" 283 (.ref 82), ky P "is_empty" 290 (.ref 89), ky P "head_size" 297 (.ref 96), ky P "take" 305 (.ref 103), ky P "__static_attributes__" 311 (.ref 104), ky P "__dict__" 313 (.ref 107), ky P "__weakref__" 315 (.ref 108), ky P "__doc__" 316 .none]⟩ 4, ⟨[]⟩⟩
noncomputable def o148 (P : Params) : Obj := ⟨.type "type", .none, .cls ⟨"QueueRow", [.type "object"], [.ref 106, .type "object"], 105, "QueueRow", .true, [], [], .false, .none, .false⟩, ⟨[.none, .none, .some (.str "QueueRow" 254), .some (.str "QueueRow" 262), .some (.builtin "object.__new__"), .some (.bool .true)]⟩⟩
noncomputable def o149 (P : Params) : Obj := ⟨.type "getset_descriptor", .none, .fields ⟨[.str "__dict__" 312, .ref 106, .builtin "function.__dict__", .builtin "function.__dict__#set"]⟩, ⟨[]⟩⟩
noncomputable def o150 (P : Params) : Obj := ⟨.type "getset_descriptor", .none, .fields ⟨[.str "__weakref__" 314, .ref 106, .builtin "ExceptionGroup.__weakref__", .none]⟩, ⟨[]⟩⟩
noncomputable def o151 (P : Params) : Obj := ⟨.type "super", .none, .fields ⟨[.ref 106, .ref 106, .ref 106]⟩, ⟨[]⟩⟩
noncomputable def o152 (P : Params) : Obj := ⟨.type "builtin_function_or_method", .none, .fields ⟨[.builtin "object.__init_subclass__", .ref 106]⟩, ⟨[]⟩⟩
noncomputable def o153 (P : Params) : Obj := ⟨.type "tuple", .none, .seq ⟨[]⟩ 0, ⟨[]⟩⟩
noncomputable def o154 (P : Params) : Obj := ⟨.none, .none, .fields ⟨[]⟩, ⟨[]⟩⟩
noncomputable def o155 (P : Params) : Obj := ⟨.type "tuple", .none, .seq ⟨[.str "rows" 322, .str "number" 323, .str "allowed" 324]⟩ 0, ⟨[]⟩⟩
noncomputable def o156 (P : Params) : Obj := ⟨.type "tuple", .none, .seq ⟨[]⟩ 0, ⟨[]⟩⟩
noncomputable def o157 (P : Params) : Obj := ⟨.none, .none, .func (fn 6 0 "may_go" 0 [] .none .none .none .none .none .none .none 0), ⟨[]⟩⟩
noncomputable def o158 (P : Params) : Obj := ⟨.type "code", .none, .fields ⟨[.str "may_go" 319, .str "may_go" 320, .str "/claim/cut.py" 321, .int 45 0, .int 3 0, .int 0 0, .int 0 0, .int 3 0, .ref 111, .bool .true, .int 181 0, .ref 112, .none, .ref 113, .ref 114, .ref 115, .int 325 0, .int 45 0, .str "/claim/cut.py" 326]⟩, ⟨[]⟩⟩
noncomputable def o159 (P : Params) : Obj := ⟨.type "function", .none, .func (fn 6 0 "may_go" 3 [] .none .none .none (.str "switchloom.queues" 252) .none (.ref 116) .none 0), ⟨[]⟩⟩
noncomputable def o160 (P : Params) : Obj := ⟨.type "dict", .none, .dict ⟨[ky P "__name__" 165 (.str "switchloom.fair_queues" 397), ky P "__doc__" 166 .none, ky P "__package__" 167 .none, ky P "__loader__" 168 (.builtin "__main__.__loader__#opaque"), ky P "__spec__" 169 .none, ky P "__annotations__" 170 (.ref 6), ky P "__builtins__" 171 (.ref 4), ky P "__file__" 173 (.str "/claim/cut.py" 172), ky P "__cached__" 174 .none, ky P "_wall" 193 (.ref 21), ky P "SwitchError" 224 (.ref 38), ky P "SettingError" 251 (.ref 59), ky P "QueueRow" 318 (.ref 106), ky P "may_go" 327 (.ref 117), ky P "DeficitRound" 396 (.ref 165)]⟩ 15, ⟨[]⟩⟩
noncomputable def o161 (P : Params) : Obj := ⟨.none, .none, .fields ⟨[.int 1 0, .int 0 0, .ref 20, .int 5 0, .int 0 0, .ref 27, .int 10 0, .int 0 0, .ref 47, .int 16 0, .int 0 0, .ref 67, .int 45 0, .int 0 0, .ref 116, .int 47 0, .int 0 0, .ref 123]⟩, ⟨[]⟩⟩
noncomputable def o162 (P : Params) : Obj := ⟨.type "tuple", .none, .seq ⟨[]⟩ 0, ⟨[]⟩⟩
noncomputable def o163 (P : Params) : Obj := ⟨.type "builtin_function_or_method", .none, .fields ⟨[.builtin "type.__prepare__", .type "type"]⟩, ⟨[]⟩⟩
noncomputable def o164 (P : Params) : Obj := ⟨.type "dict", .none, .dict ⟨[ky P "__module__" 335 (.str "switchloom.queues" 252), ky P "__qualname__" 337 (.str "DeficitRound" 336), ky P "__firstlineno__" 339 (.int 47 338), ky P "__init__" 345 (.ref 129), ky P "put" 355 (.ref 136), ky P "go_on" 362 (.ref 143), ky P "look" 368 (.ref 149), ky P "take" 377 (.ref 157), ky P "waiting" 383 (.ref 162), ky P "__static_attributes__" 389 (.ref 163)]⟩ 10, ⟨[]⟩⟩
noncomputable def o165 (P : Params) : Obj := ⟨.type "tuple", .none, .seq ⟨[]⟩ 0, ⟨[]⟩⟩
noncomputable def o166 (P : Params) : Obj := ⟨.none, .none, .fields ⟨[.int 49 0, .int 4 0, .ref 128, .int 58 0, .int 4 0, .ref 135, .int 61 0, .int 4 0, .ref 142, .int 65 0, .int 4 0, .ref 148, .int 77 0, .int 4 0, .ref 156, .int 86 0, .int 4 0, .ref 161]⟩, ⟨[]⟩⟩
noncomputable def o167 (P : Params) : Obj := ⟨.type "code", .none, .fields ⟨[.str "DeficitRound" 330, .str "DeficitRound" 331, .str "/claim/cut.py" 332, .int 47 0, .int 0 0, .int 0 0, .int 0 0, .int 0 0, .ref 121, .bool .false, .int 181 0, .ref 122, .none, .none, .none, .none, .int 333 0, .int 47 0, .str "/claim/cut.py" 334]⟩, ⟨[]⟩⟩
noncomputable def o168 (P : Params) : Obj := ⟨.type "frame", .none, .plain, ⟨[.some (.ref 123), .some (.ref 3), .some (.ref 120), .none, .some (.str "switchloom.queues" 252), .none, .some (.ref 0)]⟩⟩
noncomputable def o169 (P : Params) : Obj := ⟨.type "tuple", .none, .seq ⟨[]⟩ 0, ⟨[]⟩⟩
noncomputable def o170 (P : Params) : Obj := ⟨.none, .none, .fields ⟨[]⟩, ⟨[]⟩⟩
noncomputable def o171 (P : Params) : Obj := ⟨.none, .none, .func (fn 7 0 "DeficitRound.__init__" 0 [] .none .none .none .none .none .none .none 0), ⟨[]⟩⟩
noncomputable def o172 (P : Params) : Obj := ⟨.type "code", .none, .fields ⟨[.str "__init__" 340, .str "DeficitRound.__init__" 341, .str "/claim/cut.py" 342, .int 49 0, .int 3 0, .int 0 0, .int 0 0, .int 3 0, .ref 125, .bool .true, .int 181 0, .ref 126, .none, .none, .none, .ref 127, .int 343 0, .int 49 0, .str "/claim/cut.py" 344]⟩, ⟨[]⟩⟩
noncomputable def o173 (P : Params) : Obj := ⟨.type "function", .none, .func (fn 7 0 "DeficitRound.__init__" 3 [] .none .none .none (.str "switchloom.queues" 252) .none (.ref 128) .none 0), ⟨[]⟩⟩
noncomputable def o174 (P : Params) : Obj := ⟨.type "tuple", .none, .seq ⟨[]⟩ 0, ⟨[]⟩⟩
noncomputable def o175 (P : Params) : Obj := ⟨.none, .none, .fields ⟨[]⟩, ⟨[]⟩⟩
noncomputable def o176 (P : Params) : Obj := ⟨.type "tuple", .none, .seq ⟨[.str "self" 349, .str "number" 350, .str "size" 351, .str "thing" 352]⟩ 0, ⟨[]⟩⟩
noncomputable def o177 (P : Params) : Obj := ⟨.type "tuple", .none, .seq ⟨[]⟩ 0, ⟨[]⟩⟩
noncomputable def o178 (P : Params) : Obj := ⟨.none, .none, .func (fn 7 1 "DeficitRound.put" 0 [] .none .none .none .none .none .none .none 0), ⟨[]⟩⟩
noncomputable def o179 (P : Params) : Obj := ⟨.type "code", .none, .fields ⟨[.str "put" 346, .str "DeficitRound.put" 347, .str "/claim/cut.py" 348, .int 58 0, .int 4 0, .int 0 0, .int 0 0, .int 3 0, .ref 130, .bool .true, .int 181 0, .ref 131, .none, .ref 132, .ref 133, .ref 134, .int 353 0, .int 58 0, .str "/claim/cut.py" 354]⟩, ⟨[]⟩⟩
noncomputable def o180 (P : Params) : Obj := ⟨.type "function", .none, .func (fn 7 1 "DeficitRound.put" 3 [] .none .none .none (.str "switchloom.queues" 252) .none (.ref 135) .none 0), ⟨[]⟩⟩
noncomputable def o181 (P : Params) : Obj := ⟨.type "tuple", .none, .seq ⟨[]⟩ 0, ⟨[]⟩⟩
noncomputable def o182 (P : Params) : Obj := ⟨.none, .none, .fields ⟨[]⟩, ⟨[]⟩⟩
noncomputable def o183 (P : Params) : Obj := ⟨.type "tuple", .none, .seq ⟨[.str "self" 359]⟩ 0, ⟨[]⟩⟩
noncomputable def o184 (P : Params) : Obj := ⟨.type "tuple", .none, .seq ⟨[]⟩ 0, ⟨[]⟩⟩
noncomputable def o185 (P : Params) : Obj := ⟨.none, .none, .func (fn 7 2 "DeficitRound.go_on" 0 [] .none .none .none .none .none .none .none 0), ⟨[]⟩⟩
noncomputable def o186 (P : Params) : Obj := ⟨.type "code", .none, .fields ⟨[.str "go_on" 356, .str "DeficitRound.go_on" 357, .str "/claim/cut.py" 358, .int 61 0, .int 1 0, .int 0 0, .int 0 0, .int 3 0, .ref 137, .bool .true, .int 181 0, .ref 138, .none, .ref 139, .ref 140, .ref 141, .int 360 0, .int 61 0, .str "/claim/cut.py" 361]⟩, ⟨[]⟩⟩
noncomputable def o187 (P : Params) : Obj := ⟨.type "function", .none, .func (fn 7 2 "DeficitRound.go_on" 3 [] .none .none .none (.str "switchloom.queues" 252) .none (.ref 142) .none 0), ⟨[]⟩⟩
noncomputable def o188 (P : Params) : Obj := ⟨.type "tuple", .none, .seq ⟨[.none]⟩ 0, ⟨[]⟩⟩
noncomputable def o189 (P : Params) : Obj := ⟨.type "tuple", .none, .seq ⟨[]⟩ 0, ⟨[]⟩⟩
noncomputable def o190 (P : Params) : Obj := ⟨.none, .none, .fields ⟨[]⟩, ⟨[]⟩⟩
noncomputable def o191 (P : Params) : Obj := ⟨.none, .none, .func (fn 7 3 "DeficitRound.look" 0 [] .none .none .none .none .none .none .none 0), ⟨[]⟩⟩
noncomputable def o192 (P : Params) : Obj := ⟨.type "code", .none, .fields ⟨[.str "look" 363, .str "DeficitRound.look" 364, .str "/claim/cut.py" 365, .int 65 0, .int 2 0, .int 0 0, .int 0 0, .int 3 0, .ref 145, .bool .true, .int 181 0, .ref 146, .none, .none, .none, .ref 147, .int 366 0, .int 65 0, .str "/claim/cut.py" 367]⟩, ⟨[]⟩⟩
noncomputable def o193 (P : Params) : Obj := ⟨.type "function", .none, .func (fn 7 3 "DeficitRound.look" 3 [] (.ref 144) .none .none (.str "switchloom.queues" 252) .none (.ref 148) .none 0), ⟨[]⟩⟩
noncomputable def o194 (P : Params) : Obj := ⟨.type "tuple", .none, .seq ⟨[.none]⟩ 0, ⟨[]⟩⟩
noncomputable def o195 (P : Params) : Obj := ⟨.type "tuple", .none, .seq ⟨[]⟩ 0, ⟨[]⟩⟩
noncomputable def o196 (P : Params) : Obj := ⟨.none, .none, .fields ⟨[]⟩, ⟨[]⟩⟩
noncomputable def o197 (P : Params) : Obj := ⟨.type "tuple", .none, .seq ⟨[.str "self" 372, .str "allowed" 373, .str "found" 374]⟩ 0, ⟨[]⟩⟩
noncomputable def o198 (P : Params) : Obj := ⟨.type "tuple", .none, .seq ⟨[]⟩ 0, ⟨[]⟩⟩
noncomputable def o199 (P : Params) : Obj := ⟨.none, .none, .func (fn 7 4 "DeficitRound.take" 0 [] .none .none .none .none .none .none .none 0), ⟨[]⟩⟩
noncomputable def o200 (P : Params) : Obj := ⟨.type "code", .none, .fields ⟨[.str "take" 369, .str "DeficitRound.take" 370, .str "/claim/cut.py" 371, .int 77 0, .int 2 0, .int 0 0, .int 0 0, .int 3 0, .ref 151, .bool .true, .int 181 0, .ref 152, .none, .ref 153, .ref 154, .ref 155, .int 375 0, .int 77 0, .str "/claim/cut.py" 376]⟩, ⟨[]⟩⟩
noncomputable def o201 (P : Params) : Obj := ⟨.type "function", .none, .func (fn 7 4 "DeficitRound.take" 3 [] (.ref 150) .none .none (.str "switchloom.queues" 252) .none (.ref 156) .none 0), ⟨[]⟩⟩
noncomputable def o202 (P : Params) : Obj := ⟨.type "tuple", .none, .seq ⟨[]⟩ 0, ⟨[]⟩⟩
noncomputable def o203 (P : Params) : Obj := ⟨.none, .none, .fields ⟨[]⟩, ⟨[]⟩⟩
noncomputable def o204 (P : Params) : Obj := ⟨.none, .none, .func (fn 7 5 "DeficitRound.waiting" 0 [] .none .none .none .none .none .none .none 0), ⟨[]⟩⟩
noncomputable def o205 (P : Params) : Obj := ⟨.type "code", .none, .fields ⟨[.str "waiting" 378, .str "DeficitRound.waiting" 379, .str "/claim/cut.py" 380, .int 86 0, .int 1 0, .int 0 0, .int 0 0, .int 3 0, .ref 158, .bool .true, .int 181 0, .ref 159, .none, .none, .none, .ref 160, .int 381 0, .int 86 0, .str "/claim/cut.py" 382]⟩, ⟨[]⟩⟩
noncomputable def o206 (P : Params) : Obj := ⟨.type "function", .none, .func (fn 7 5 "DeficitRound.waiting" 3 [] .none .none .none (.str "switchloom.queues" 252) .none (.ref 161) .none 0), ⟨[]⟩⟩
noncomputable def o207 (P : Params) : Obj := ⟨.type "tuple", .none, .seq ⟨[.str "at" 384, .str "is_begun" 385, .str "left" 386, .str "quanta" 387, .str "rows" 388]⟩ 0, ⟨[]⟩⟩
noncomputable def o208 (P : Params) : Obj := ⟨.type "dict", .none, .dict ⟨[ky P "__module__" 335 (.str "switchloom.queues" 252), ky P "__firstlineno__" 339 (.int 47 338), ky P "__init__" 345 (.ref 129), ky P "put" 355 (.ref 136), ky P "go_on" 362 (.ref 143), ky P "look" 368 (.ref 149), ky P "take" 377 (.ref 157), ky P "waiting" 383 (.ref 162), ky P "__static_attributes__" 389 (.ref 163), ky P "__dict__" 391 (.ref 166), ky P "__weakref__" 393 (.ref 167), ky P "__doc__" 394 .none]⟩ 4, ⟨[]⟩⟩
noncomputable def o209 (P : Params) : Obj := ⟨.type "type", .none, .cls ⟨"DeficitRound", [.type "object"], [.ref 165, .type "object"], 164, "DeficitRound", .true, [], [], .false, .none, .false⟩, ⟨[.none, .none, .some (.str "DeficitRound" 328), .some (.str "DeficitRound" 336), .some (.builtin "object.__new__"), .some (.bool .true)]⟩⟩
noncomputable def o210 (P : Params) : Obj := ⟨.type "getset_descriptor", .none, .fields ⟨[.str "__dict__" 390, .ref 165, .builtin "function.__dict__", .builtin "function.__dict__#set"]⟩, ⟨[]⟩⟩
noncomputable def o211 (P : Params) : Obj := ⟨.type "getset_descriptor", .none, .fields ⟨[.str "__weakref__" 392, .ref 165, .builtin "ExceptionGroup.__weakref__", .none]⟩, ⟨[]⟩⟩
noncomputable def o212 (P : Params) : Obj := ⟨.type "super", .none, .fields ⟨[.ref 165, .ref 165, .ref 165]⟩, ⟨[]⟩⟩
noncomputable def o213 (P : Params) : Obj := ⟨.type "builtin_function_or_method", .none, .fields ⟨[.builtin "object.__init_subclass__", .ref 165]⟩, ⟨[]⟩⟩
noncomputable def o214 (P : Params) : Obj := ⟨.type "dict", .none, .dict ⟨[ky P "__name__" 165 (.str "switchloom.buckets" 473), ky P "__doc__" 166 .none, ky P "__package__" 167 .none, ky P "__loader__" 168 (.builtin "__main__.__loader__#opaque"), ky P "__spec__" 169 .none, ky P "__annotations__" 170 (.ref 6), ky P "__builtins__" 171 (.ref 4), ky P "__file__" 173 (.str "/claim/cut.py" 172), ky P "__cached__" 174 .none, ky P "_wall" 193 (.ref 21), ky P "SwitchError" 224 (.ref 38), ky P "SettingError" 251 (.ref 59), ky P "QueueRow" 318 (.ref 106), ky P "may_go" 327 (.ref 117), ky P "DeficitRound" 396 (.ref 165), ky P "least_multiple" 409 (.ref 176), ky P "WeightedFair" 472 (.ref 217), ky P "GRAINS" 476 (.int 100 475)]⟩ 18, ⟨[]⟩⟩
noncomputable def o215 (P : Params) : Obj := ⟨.none, .none, .fields ⟨[.int 1 0, .int 0 0, .ref 20, .int 5 0, .int 0 0, .ref 27, .int 10 0, .int 0 0, .ref 47, .int 16 0, .int 0 0, .ref 67, .int 45 0, .int 0 0, .ref 116, .int 47 0, .int 0 0, .ref 123, .int 89 0, .int 0 0, .ref 175, .int 97 0, .int 0 0, .ref 182]⟩, ⟨[]⟩⟩
noncomputable def o216 (P : Params) : Obj := ⟨.type "tuple", .none, .seq ⟨[]⟩ 0, ⟨[]⟩⟩
noncomputable def o217 (P : Params) : Obj := ⟨.none, .none, .fields ⟨[]⟩, ⟨[]⟩⟩
noncomputable def o218 (P : Params) : Obj := ⟨.type "tuple", .none, .seq ⟨[.str "numbers" 402, .str "found" 403, .str "number" 404, .str "one" 405, .str "other" 406]⟩ 0, ⟨[]⟩⟩
noncomputable def o219 (P : Params) : Obj := ⟨.type "tuple", .none, .seq ⟨[]⟩ 0, ⟨[]⟩⟩
noncomputable def o220 (P : Params) : Obj := ⟨.none, .none, .func (fn 9 0 "least_multiple" 0 [] .none .none .none .none .none .none .none 0), ⟨[]⟩⟩
noncomputable def o221 (P : Params) : Obj := ⟨.type "code", .none, .fields ⟨[.str "least_multiple" 399, .str "least_multiple" 400, .str "/claim/cut.py" 401, .int 89 0, .int 1 0, .int 0 0, .int 0 0, .int 3 0, .ref 170, .bool .true, .int 181 0, .ref 171, .none, .ref 172, .ref 173, .ref 174, .int 407 0, .int 89 0, .str "/claim/cut.py" 408]⟩, ⟨[]⟩⟩
noncomputable def o222 (P : Params) : Obj := ⟨.type "function", .none, .func (fn 9 0 "least_multiple" 3 [] .none .none .none (.str "switchloom.fair_queues" 397) .none (.ref 175) .none 0), ⟨[]⟩⟩
noncomputable def o223 (P : Params) : Obj := ⟨.type "tuple", .none, .seq ⟨[]⟩ 0, ⟨[]⟩⟩
noncomputable def o224 (P : Params) : Obj := ⟨.type "builtin_function_or_method", .none, .fields ⟨[.builtin "type.__prepare__", .type "type"]⟩, ⟨[]⟩⟩
noncomputable def o225 (P : Params) : Obj := ⟨.type "dict", .none, .dict ⟨[ky P "__module__" 417 (.str "switchloom.fair_queues" 397), ky P "__qualname__" 419 (.str "WeightedFair" 418), ky P "__firstlineno__" 421 (.int 97 420), ky P "__init__" 427 (.ref 188), ky P "put" 437 (.ref 195), ky P "look" 443 (.ref 201), ky P "take" 452 (.ref 209), ky P "waiting" 458 (.ref 214), ky P "__static_attributes__" 465 (.ref 215)]⟩ 9, ⟨[]⟩⟩
noncomputable def o226 (P : Params) : Obj := ⟨.type "tuple", .none, .seq ⟨[]⟩ 0, ⟨[]⟩⟩
noncomputable def o227 (P : Params) : Obj := ⟨.none, .none, .fields ⟨[.int 99 0, .int 4 0, .ref 187, .int 109 0, .int 4 0, .ref 194, .int 119 0, .int 4 0, .ref 200, .int 126 0, .int 4 0, .ref 208, .int 133 0, .int 4 0, .ref 213]⟩, ⟨[]⟩⟩
noncomputable def o228 (P : Params) : Obj := ⟨.type "code", .none, .fields ⟨[.str "WeightedFair" 412, .str "WeightedFair" 413, .str "/claim/cut.py" 414, .int 97 0, .int 0 0, .int 0 0, .int 0 0, .int 0 0, .ref 180, .bool .false, .int 181 0, .ref 181, .none, .none, .none, .none, .int 415 0, .int 97 0, .str "/claim/cut.py" 416]⟩, ⟨[]⟩⟩
noncomputable def o229 (P : Params) : Obj := ⟨.type "frame", .none, .plain, ⟨[.some (.ref 182), .some (.ref 3), .some (.ref 179), .none, .some (.str "switchloom.fair_queues" 397), .none, .some (.ref 0)]⟩⟩
noncomputable def o230 (P : Params) : Obj := ⟨.type "tuple", .none, .seq ⟨[]⟩ 0, ⟨[]⟩⟩
noncomputable def o231 (P : Params) : Obj := ⟨.none, .none, .fields ⟨[]⟩, ⟨[]⟩⟩
noncomputable def o232 (P : Params) : Obj := ⟨.none, .none, .func (fn 10 0 "WeightedFair.__init__" 0 [] .none .none .none .none .none .none .none 0), ⟨[]⟩⟩
noncomputable def o233 (P : Params) : Obj := ⟨.type "code", .none, .fields ⟨[.str "__init__" 422, .str "WeightedFair.__init__" 423, .str "/claim/cut.py" 424, .int 99 0, .int 3 0, .int 0 0, .int 0 0, .int 3 0, .ref 184, .bool .true, .int 181 0, .ref 185, .none, .none, .none, .ref 186, .int 425 0, .int 99 0, .str "/claim/cut.py" 426]⟩, ⟨[]⟩⟩
noncomputable def o234 (P : Params) : Obj := ⟨.type "function", .none, .func (fn 10 0 "WeightedFair.__init__" 3 [] .none .none .none (.str "switchloom.fair_queues" 397) .none (.ref 187) .none 0), ⟨[]⟩⟩
noncomputable def o235 (P : Params) : Obj := ⟨.type "tuple", .none, .seq ⟨[]⟩ 0, ⟨[]⟩⟩
noncomputable def o236 (P : Params) : Obj := ⟨.none, .none, .fields ⟨[]⟩, ⟨[]⟩⟩
noncomputable def o237 (P : Params) : Obj := ⟨.type "tuple", .none, .seq ⟨[.str "self" 431, .str "number" 432, .str "size" 433, .str "thing" 434]⟩ 0, ⟨[]⟩⟩
noncomputable def o238 (P : Params) : Obj := ⟨.type "tuple", .none, .seq ⟨[]⟩ 0, ⟨[]⟩⟩
noncomputable def o239 (P : Params) : Obj := ⟨.none, .none, .func (fn 10 1 "WeightedFair.put" 0 [] .none .none .none .none .none .none .none 0), ⟨[]⟩⟩
noncomputable def o240 (P : Params) : Obj := ⟨.type "code", .none, .fields ⟨[.str "put" 428, .str "WeightedFair.put" 429, .str "/claim/cut.py" 430, .int 109 0, .int 4 0, .int 0 0, .int 0 0, .int 3 0, .ref 189, .bool .true, .int 181 0, .ref 190, .none, .ref 191, .ref 192, .ref 193, .int 435 0, .int 109 0, .str "/claim/cut.py" 436]⟩, ⟨[]⟩⟩
noncomputable def o241 (P : Params) : Obj := ⟨.type "function", .none, .func (fn 10 1 "WeightedFair.put" 3 [] .none .none .none (.str "switchloom.fair_queues" 397) .none (.ref 194) .none 0), ⟨[]⟩⟩
noncomputable def o242 (P : Params) : Obj := ⟨.type "tuple", .none, .seq ⟨[.none]⟩ 0, ⟨[]⟩⟩
noncomputable def o243 (P : Params) : Obj := ⟨.type "tuple", .none, .seq ⟨[]⟩ 0, ⟨[]⟩⟩
noncomputable def o244 (P : Params) : Obj := ⟨.none, .none, .fields ⟨[]⟩, ⟨[]⟩⟩
noncomputable def o245 (P : Params) : Obj := ⟨.none, .none, .func (fn 10 2 "WeightedFair.look" 0 [] .none .none .none .none .none .none .none 0), ⟨[]⟩⟩
noncomputable def o246 (P : Params) : Obj := ⟨.type "code", .none, .fields ⟨[.str "look" 438, .str "WeightedFair.look" 439, .str "/claim/cut.py" 440, .int 119 0, .int 2 0, .int 0 0, .int 0 0, .int 3 0, .ref 197, .bool .true, .int 181 0, .ref 198, .none, .none, .none, .ref 199, .int 441 0, .int 119 0, .str "/claim/cut.py" 442]⟩, ⟨[]⟩⟩
noncomputable def o247 (P : Params) : Obj := ⟨.type "function", .none, .func (fn 10 2 "WeightedFair.look" 3 [] (.ref 196) .none .none (.str "switchloom.fair_queues" 397) .none (.ref 200) .none 0), ⟨[]⟩⟩
noncomputable def o248 (P : Params) : Obj := ⟨.type "tuple", .none, .seq ⟨[.none]⟩ 0, ⟨[]⟩⟩
noncomputable def o249 (P : Params) : Obj := ⟨.type "tuple", .none, .seq ⟨[]⟩ 0, ⟨[]⟩⟩
noncomputable def o250 (P : Params) : Obj := ⟨.none, .none, .fields ⟨[]⟩, ⟨[]⟩⟩
noncomputable def o251 (P : Params) : Obj := ⟨.type "tuple", .none, .seq ⟨[.str "self" 447, .str "allowed" 448, .str "found" 449]⟩ 0, ⟨[]⟩⟩
noncomputable def o252 (P : Params) : Obj := ⟨.type "tuple", .none, .seq ⟨[]⟩ 0, ⟨[]⟩⟩
noncomputable def o253 (P : Params) : Obj := ⟨.none, .none, .func (fn 10 3 "WeightedFair.take" 0 [] .none .none .none .none .none .none .none 0), ⟨[]⟩⟩
noncomputable def o254 (P : Params) : Obj := ⟨.type "code", .none, .fields ⟨[.str "take" 444, .str "WeightedFair.take" 445, .str "/claim/cut.py" 446, .int 126 0, .int 2 0, .int 0 0, .int 0 0, .int 3 0, .ref 203, .bool .true, .int 181 0, .ref 204, .none, .ref 205, .ref 206, .ref 207, .int 450 0, .int 126 0, .str "/claim/cut.py" 451]⟩, ⟨[]⟩⟩
noncomputable def o255 (P : Params) : Obj := ⟨.type "function", .none, .func (fn 10 3 "WeightedFair.take" 3 [] (.ref 202) .none .none (.str "switchloom.fair_queues" 397) .none (.ref 208) .none 0), ⟨[]⟩⟩
noncomputable def o256 (P : Params) : Obj := ⟨.type "tuple", .none, .seq ⟨[]⟩ 0, ⟨[]⟩⟩
noncomputable def o257 (P : Params) : Obj := ⟨.none, .none, .fields ⟨[]⟩, ⟨[]⟩⟩
noncomputable def o258 (P : Params) : Obj := ⟨.none, .none, .func (fn 10 4 "WeightedFair.waiting" 0 [] .none .none .none .none .none .none .none 0), ⟨[]⟩⟩
noncomputable def o259 (P : Params) : Obj := ⟨.type "code", .none, .fields ⟨[.str "waiting" 453, .str "WeightedFair.waiting" 454, .str "/claim/cut.py" 455, .int 133 0, .int 1 0, .int 0 0, .int 0 0, .int 3 0, .ref 210, .bool .true, .int 181 0, .ref 211, .none, .none, .none, .ref 212, .int 456 0, .int 133 0, .str "/claim/cut.py" 457]⟩, ⟨[]⟩⟩
noncomputable def o260 (P : Params) : Obj := ⟨.type "function", .none, .func (fn 10 4 "WeightedFair.waiting" 3 [] .none .none .none (.str "switchloom.fair_queues" 397) .none (.ref 213) .none 0), ⟨[]⟩⟩
noncomputable def o261 (P : Params) : Obj := ⟨.type "tuple", .none, .seq ⟨[.str "finishes" 459, .str "last" 460, .str "rows" 461, .str "steps" 462, .str "time" 463, .str "unit" 464]⟩ 0, ⟨[]⟩⟩
noncomputable def o262 (P : Params) : Obj := ⟨.type "dict", .none, .dict ⟨[ky P "__module__" 417 (.str "switchloom.fair_queues" 397), ky P "__firstlineno__" 421 (.int 97 420), ky P "__init__" 427 (.ref 188), ky P "put" 437 (.ref 195), ky P "look" 443 (.ref 201), ky P "take" 452 (.ref 209), ky P "waiting" 458 (.ref 214), ky P "__static_attributes__" 465 (.ref 215), ky P "__dict__" 467 (.ref 218), ky P "__weakref__" 469 (.ref 219), ky P "__doc__" 470 .none]⟩ 4, ⟨[]⟩⟩
noncomputable def o263 (P : Params) : Obj := ⟨.type "type", .none, .cls ⟨"WeightedFair", [.type "object"], [.ref 217, .type "object"], 216, "WeightedFair", .true, [], [], .false, .none, .false⟩, ⟨[.none, .none, .some (.str "WeightedFair" 410), .some (.str "WeightedFair" 418), .some (.builtin "object.__new__"), .some (.bool .true)]⟩⟩
noncomputable def o264 (P : Params) : Obj := ⟨.type "getset_descriptor", .none, .fields ⟨[.str "__dict__" 466, .ref 217, .builtin "function.__dict__", .builtin "function.__dict__#set"]⟩, ⟨[]⟩⟩
noncomputable def o265 (P : Params) : Obj := ⟨.type "getset_descriptor", .none, .fields ⟨[.str "__weakref__" 468, .ref 217, .builtin "ExceptionGroup.__weakref__", .none]⟩, ⟨[]⟩⟩
noncomputable def o266 (P : Params) : Obj := ⟨.type "super", .none, .fields ⟨[.ref 217, .ref 217, .ref 217]⟩, ⟨[]⟩⟩
noncomputable def o267 (P : Params) : Obj := ⟨.type "builtin_function_or_method", .none, .fields ⟨[.builtin "object.__init_subclass__", .ref 217]⟩, ⟨[]⟩⟩
noncomputable def o268 (P : Params) : Obj := ⟨.type "dict", .none, .dict ⟨[ky P "__name__" 165 (.str "switchloom.buckets" 473), ky P "__doc__" 166 .none, ky P "__package__" 167 .none, ky P "__loader__" 168 (.builtin "__main__.__loader__#opaque"), ky P "__spec__" 169 .none, ky P "__annotations__" 170 (.ref 6), ky P "__builtins__" 171 (.ref 4), ky P "__file__" 173 (.str "/claim/cut.py" 172), ky P "__cached__" 174 .none, ky P "_wall" 193 (.ref 21), ky P "SwitchError" 224 (.ref 38), ky P "SettingError" 251 (.ref 59), ky P "QueueRow" 318 (.ref 106), ky P "may_go" 327 (.ref 117), ky P "DeficitRound" 396 (.ref 165), ky P "least_multiple" 409 (.ref 176), ky P "WeightedFair" 472 (.ref 217), ky P "GRAINS" 476 (.int 100 475), ky P "Bucket" 570 (.ref 287)]⟩ 19, ⟨[]⟩⟩
noncomputable def o269 (P : Params) : Obj := ⟨.none, .none, .fields ⟨[.int 1 0, .int 0 0, .ref 20, .int 5 0, .int 0 0, .ref 27, .int 10 0, .int 0 0, .ref 47, .int 16 0, .int 0 0, .ref 67, .int 45 0, .int 0 0, .ref 116, .int 47 0, .int 0 0, .ref 123, .int 89 0, .int 0 0, .ref 175, .int 97 0, .int 0 0, .ref 182, .int 137 0, .int 0 0, .ref 227]⟩, ⟨[]⟩⟩
noncomputable def o270 (P : Params) : Obj := ⟨.type "tuple", .none, .seq ⟨[]⟩ 0, ⟨[]⟩⟩
noncomputable def o271 (P : Params) : Obj := ⟨.type "builtin_function_or_method", .none, .fields ⟨[.builtin "type.__prepare__", .type "type"]⟩, ⟨[]⟩⟩
noncomputable def o272 (P : Params) : Obj := ⟨.type "dict", .none, .dict ⟨[ky P "__module__" 484 (.str "switchloom.buckets" 473), ky P "__qualname__" 486 (.str "Bucket" 485), ky P "__firstlineno__" 488 (.int 137 487), ky P "__init__" 497 (.ref 235), ky P "fill" 506 (.ref 242), ky P "level" 514 (.ref 249), ky P "has" 523 (.ref 256), ky P "spend" 531 (.ref 263), ky P "take" 540 (.ref 270), ky P "add" 548 (.ref 277), ky P "wait" 558 (.ref 284), ky P "__static_attributes__" 563 (.ref 285)]⟩ 12, ⟨[]⟩⟩
noncomputable def o273 (P : Params) : Obj := ⟨.type "tuple", .none, .seq ⟨[]⟩ 0, ⟨[]⟩⟩
noncomputable def o274 (P : Params) : Obj := ⟨.none, .none, .fields ⟨[.int 139 0, .int 4 0, .ref 234, .int 147 0, .int 4 0, .ref 241, .int 155 0, .int 4 0, .ref 248, .int 158 0, .int 4 0, .ref 255, .int 162 0, .int 4 0, .ref 262, .int 165 0, .int 4 0, .ref 269, .int 171 0, .int 4 0, .ref 276, .int 174 0, .int 4 0, .ref 283]⟩, ⟨[]⟩⟩
noncomputable def o275 (P : Params) : Obj := ⟨.type "code", .none, .fields ⟨[.str "Bucket" 479, .str "Bucket" 480, .str "/claim/cut.py" 481, .int 137 0, .int 0 0, .int 0 0, .int 0 0, .int 0 0, .ref 225, .bool .false, .int 181 0, .ref 226, .none, .none, .none, .none, .int 482 0, .int 137 0, .str "/claim/cut.py" 483]⟩, ⟨[]⟩⟩
noncomputable def o276 (P : Params) : Obj := ⟨.type "frame", .none, .plain, ⟨[.some (.ref 227), .some (.ref 3), .some (.ref 224), .none, .some (.str "switchloom.buckets" 473), .none, .some (.ref 0)]⟩⟩
noncomputable def o277 (P : Params) : Obj := ⟨.type "tuple", .none, .seq ⟨[]⟩ 0, ⟨[]⟩⟩
noncomputable def o278 (P : Params) : Obj := ⟨.none, .none, .fields ⟨[]⟩, ⟨[]⟩⟩
noncomputable def o279 (P : Params) : Obj := ⟨.type "tuple", .none, .seq ⟨[.str "self" 492, .str "rate" 493, .str "burst" 494]⟩ 0, ⟨[]⟩⟩
noncomputable def o280 (P : Params) : Obj := ⟨.type "tuple", .none, .seq ⟨[]⟩ 0, ⟨[]⟩⟩
noncomputable def o281 (P : Params) : Obj := ⟨.none, .none, .func (fn 13 0 "Bucket.__init__" 0 [] .none .none .none .none .none .none .none 0), ⟨[]⟩⟩
noncomputable def o282 (P : Params) : Obj := ⟨.type "code", .none, .fields ⟨[.str "__init__" 489, .str "Bucket.__init__" 490, .str "/claim/cut.py" 491, .int 139 0, .int 3 0, .int 0 0, .int 0 0, .int 3 0, .ref 229, .bool .true, .int 181 0, .ref 230, .none, .ref 231, .ref 232, .ref 233, .int 495 0, .int 139 0, .str "/claim/cut.py" 496]⟩, ⟨[]⟩⟩
noncomputable def o283 (P : Params) : Obj := ⟨.type "function", .none, .func (fn 13 0 "Bucket.__init__" 3 [] .none .none .none (.str "switchloom.buckets" 473) .none (.ref 234) .none 0), ⟨[]⟩⟩
noncomputable def o284 (P : Params) : Obj := ⟨.type "tuple", .none, .seq ⟨[]⟩ 0, ⟨[]⟩⟩
noncomputable def o285 (P : Params) : Obj := ⟨.none, .none, .fields ⟨[]⟩, ⟨[]⟩⟩
noncomputable def o286 (P : Params) : Obj := ⟨.type "tuple", .none, .seq ⟨[.str "self" 501, .str "now" 502, .str "whole" 503]⟩ 0, ⟨[]⟩⟩
noncomputable def o287 (P : Params) : Obj := ⟨.type "tuple", .none, .seq ⟨[]⟩ 0, ⟨[]⟩⟩
noncomputable def o288 (P : Params) : Obj := ⟨.none, .none, .func (fn 13 1 "Bucket.fill" 0 [] .none .none .none .none .none .none .none 0), ⟨[]⟩⟩
noncomputable def o289 (P : Params) : Obj := ⟨.type "code", .none, .fields ⟨[.str "fill" 498, .str "Bucket.fill" 499, .str "/claim/cut.py" 500, .int 147 0, .int 2 0, .int 0 0, .int 0 0, .int 3 0, .ref 236, .bool .true, .int 181 0, .ref 237, .none, .ref 238, .ref 239, .ref 240, .int 504 0, .int 147 0, .str "/claim/cut.py" 505]⟩, ⟨[]⟩⟩
noncomputable def o290 (P : Params) : Obj := ⟨.type "function", .none, .func (fn 13 1 "Bucket.fill" 3 [] .none .none .none (.str "switchloom.buckets" 473) .none (.ref 241) .none 0), ⟨[]⟩⟩
noncomputable def o291 (P : Params) : Obj := ⟨.type "tuple", .none, .seq ⟨[]⟩ 0, ⟨[]⟩⟩
noncomputable def o292 (P : Params) : Obj := ⟨.none, .none, .fields ⟨[]⟩, ⟨[]⟩⟩
noncomputable def o293 (P : Params) : Obj := ⟨.type "tuple", .none, .seq ⟨[.str "self" 510, .str "now" 511]⟩ 0, ⟨[]⟩⟩
noncomputable def o294 (P : Params) : Obj := ⟨.type "tuple", .none, .seq ⟨[]⟩ 0, ⟨[]⟩⟩
noncomputable def o295 (P : Params) : Obj := ⟨.none, .none, .func (fn 13 2 "Bucket.level" 0 [] .none .none .none .none .none .none .none 0), ⟨[]⟩⟩
noncomputable def o296 (P : Params) : Obj := ⟨.type "code", .none, .fields ⟨[.str "level" 507, .str "Bucket.level" 508, .str "/claim/cut.py" 509, .int 155 0, .int 2 0, .int 0 0, .int 0 0, .int 3 0, .ref 243, .bool .true, .int 181 0, .ref 244, .none, .ref 245, .ref 246, .ref 247, .int 512 0, .int 155 0, .str "/claim/cut.py" 513]⟩, ⟨[]⟩⟩
noncomputable def o297 (P : Params) : Obj := ⟨.type "function", .none, .func (fn 13 2 "Bucket.level" 3 [] .none .none .none (.str "switchloom.buckets" 473) .none (.ref 248) .none 0), ⟨[]⟩⟩
noncomputable def o298 (P : Params) : Obj := ⟨.type "tuple", .none, .seq ⟨[]⟩ 0, ⟨[]⟩⟩
noncomputable def o299 (P : Params) : Obj := ⟨.none, .none, .fields ⟨[]⟩, ⟨[]⟩⟩
noncomputable def o300 (P : Params) : Obj := ⟨.type "tuple", .none, .seq ⟨[.str "self" 518, .str "size" 519, .str "now" 520]⟩ 0, ⟨[]⟩⟩
noncomputable def o301 (P : Params) : Obj := ⟨.type "tuple", .none, .seq ⟨[]⟩ 0, ⟨[]⟩⟩
noncomputable def o302 (P : Params) : Obj := ⟨.none, .none, .func (fn 13 3 "Bucket.has" 0 [] .none .none .none .none .none .none .none 0), ⟨[]⟩⟩
noncomputable def o303 (P : Params) : Obj := ⟨.type "code", .none, .fields ⟨[.str "has" 515, .str "Bucket.has" 516, .str "/claim/cut.py" 517, .int 158 0, .int 3 0, .int 0 0, .int 0 0, .int 3 0, .ref 250, .bool .true, .int 181 0, .ref 251, .none, .ref 252, .ref 253, .ref 254, .int 521 0, .int 158 0, .str "/claim/cut.py" 522]⟩, ⟨[]⟩⟩
noncomputable def o304 (P : Params) : Obj := ⟨.type "function", .none, .func (fn 13 3 "Bucket.has" 3 [] .none .none .none (.str "switchloom.buckets" 473) .none (.ref 255) .none 0), ⟨[]⟩⟩
noncomputable def o305 (P : Params) : Obj := ⟨.type "tuple", .none, .seq ⟨[]⟩ 0, ⟨[]⟩⟩
noncomputable def o306 (P : Params) : Obj := ⟨.none, .none, .fields ⟨[]⟩, ⟨[]⟩⟩
noncomputable def o307 (P : Params) : Obj := ⟨.type "tuple", .none, .seq ⟨[.str "self" 527, .str "size" 528]⟩ 0, ⟨[]⟩⟩
noncomputable def o308 (P : Params) : Obj := ⟨.type "tuple", .none, .seq ⟨[]⟩ 0, ⟨[]⟩⟩
noncomputable def o309 (P : Params) : Obj := ⟨.none, .none, .func (fn 13 4 "Bucket.spend" 0 [] .none .none .none .none .none .none .none 0), ⟨[]⟩⟩
noncomputable def o310 (P : Params) : Obj := ⟨.type "code", .none, .fields ⟨[.str "spend" 524, .str "Bucket.spend" 525, .str "/claim/cut.py" 526, .int 162 0, .int 2 0, .int 0 0, .int 0 0, .int 3 0, .ref 257, .bool .true, .int 181 0, .ref 258, .none, .ref 259, .ref 260, .ref 261, .int 529 0, .int 162 0, .str "/claim/cut.py" 530]⟩, ⟨[]⟩⟩
noncomputable def o311 (P : Params) : Obj := ⟨.type "function", .none, .func (fn 13 4 "Bucket.spend" 3 [] .none .none .none (.str "switchloom.buckets" 473) .none (.ref 262) .none 0), ⟨[]⟩⟩
noncomputable def o312 (P : Params) : Obj := ⟨.type "tuple", .none, .seq ⟨[]⟩ 0, ⟨[]⟩⟩
noncomputable def o313 (P : Params) : Obj := ⟨.none, .none, .fields ⟨[]⟩, ⟨[]⟩⟩
noncomputable def o314 (P : Params) : Obj := ⟨.type "tuple", .none, .seq ⟨[.str "self" 535, .str "size" 536, .str "now" 537]⟩ 0, ⟨[]⟩⟩
noncomputable def o315 (P : Params) : Obj := ⟨.type "tuple", .none, .seq ⟨[]⟩ 0, ⟨[]⟩⟩
noncomputable def o316 (P : Params) : Obj := ⟨.none, .none, .func (fn 13 5 "Bucket.take" 0 [] .none .none .none .none .none .none .none 0), ⟨[]⟩⟩
noncomputable def o317 (P : Params) : Obj := ⟨.type "code", .none, .fields ⟨[.str "take" 532, .str "Bucket.take" 533, .str "/claim/cut.py" 534, .int 165 0, .int 3 0, .int 0 0, .int 0 0, .int 3 0, .ref 264, .bool .true, .int 181 0, .ref 265, .none, .ref 266, .ref 267, .ref 268, .int 538 0, .int 165 0, .str "/claim/cut.py" 539]⟩, ⟨[]⟩⟩
noncomputable def o318 (P : Params) : Obj := ⟨.type "function", .none, .func (fn 13 5 "Bucket.take" 3 [] .none .none .none (.str "switchloom.buckets" 473) .none (.ref 269) .none 0), ⟨[]⟩⟩
noncomputable def o319 (P : Params) : Obj := ⟨.type "tuple", .none, .seq ⟨[]⟩ 0, ⟨[]⟩⟩
noncomputable def o320 (P : Params) : Obj := ⟨.none, .none, .fields ⟨[]⟩, ⟨[]⟩⟩
noncomputable def o321 (P : Params) : Obj := ⟨.type "tuple", .none, .seq ⟨[.str "self" 544, .str "grains" 545]⟩ 0, ⟨[]⟩⟩
noncomputable def o322 (P : Params) : Obj := ⟨.type "tuple", .none, .seq ⟨[]⟩ 0, ⟨[]⟩⟩
noncomputable def o323 (P : Params) : Obj := ⟨.none, .none, .func (fn 13 6 "Bucket.add" 0 [] .none .none .none .none .none .none .none 0), ⟨[]⟩⟩
noncomputable def o324 (P : Params) : Obj := ⟨.type "code", .none, .fields ⟨[.str "add" 541, .str "Bucket.add" 542, .str "/claim/cut.py" 543, .int 171 0, .int 2 0, .int 0 0, .int 0 0, .int 3 0, .ref 271, .bool .true, .int 181 0, .ref 272, .none, .ref 273, .ref 274, .ref 275, .int 546 0, .int 171 0, .str "/claim/cut.py" 547]⟩, ⟨[]⟩⟩
noncomputable def o325 (P : Params) : Obj := ⟨.type "function", .none, .func (fn 13 6 "Bucket.add" 3 [] .none .none .none (.str "switchloom.buckets" 473) .none (.ref 276) .none 0), ⟨[]⟩⟩
noncomputable def o326 (P : Params) : Obj := ⟨.type "tuple", .none, .seq ⟨[]⟩ 0, ⟨[]⟩⟩
noncomputable def o327 (P : Params) : Obj := ⟨.none, .none, .fields ⟨[]⟩, ⟨[]⟩⟩
noncomputable def o328 (P : Params) : Obj := ⟨.type "tuple", .none, .seq ⟨[.str "self" 552, .str "size" 553, .str "now" 554, .str "lack" 555]⟩ 0, ⟨[]⟩⟩
noncomputable def o329 (P : Params) : Obj := ⟨.type "tuple", .none, .seq ⟨[]⟩ 0, ⟨[]⟩⟩
noncomputable def o330 (P : Params) : Obj := ⟨.none, .none, .func (fn 13 7 "Bucket.wait" 0 [] .none .none .none .none .none .none .none 0), ⟨[]⟩⟩
noncomputable def o331 (P : Params) : Obj := ⟨.type "code", .none, .fields ⟨[.str "wait" 549, .str "Bucket.wait" 550, .str "/claim/cut.py" 551, .int 174 0, .int 3 0, .int 0 0, .int 0 0, .int 3 0, .ref 278, .bool .true, .int 181 0, .ref 279, .none, .ref 280, .ref 281, .ref 282, .int 556 0, .int 174 0, .str "/claim/cut.py" 557]⟩, ⟨[]⟩⟩
noncomputable def o332 (P : Params) : Obj := ⟨.type "function", .none, .func (fn 13 7 "Bucket.wait" 3 [] .none .none .none (.str "switchloom.buckets" 473) .none (.ref 283) .none 0), ⟨[]⟩⟩
noncomputable def o333 (P : Params) : Obj := ⟨.type "tuple", .none, .seq ⟨[.str "burst" 559, .str "grains" 560, .str "rate" 561, .str "time" 562]⟩ 0, ⟨[]⟩⟩
noncomputable def o334 (P : Params) : Obj := ⟨.type "dict", .none, .dict ⟨[ky P "__module__" 484 (.str "switchloom.buckets" 473), ky P "__firstlineno__" 488 (.int 137 487), ky P "__init__" 497 (.ref 235), ky P "fill" 506 (.ref 242), ky P "level" 514 (.ref 249), ky P "has" 523 (.ref 256), ky P "spend" 531 (.ref 263), ky P "take" 540 (.ref 270), ky P "add" 548 (.ref 277), ky P "wait" 558 (.ref 284), ky P "__static_attributes__" 563 (.ref 285), ky P "__dict__" 565 (.ref 288), ky P "__weakref__" 567 (.ref 289), ky P "__doc__" 568 .none]⟩ 4, ⟨[]⟩⟩
noncomputable def o335 (P : Params) : Obj := ⟨.type "type", .none, .cls ⟨"Bucket", [.type "object"], [.ref 287, .type "object"], 286, "Bucket", .true, [], [], .false, .none, .false⟩, ⟨[.none, .none, .some (.str "Bucket" 477), .some (.str "Bucket" 485), .some (.builtin "object.__new__"), .some (.bool .true)]⟩⟩
noncomputable def o336 (P : Params) : Obj := ⟨.type "getset_descriptor", .none, .fields ⟨[.str "__dict__" 564, .ref 287, .builtin "function.__dict__", .builtin "function.__dict__#set"]⟩, ⟨[]⟩⟩
noncomputable def o337 (P : Params) : Obj := ⟨.type "getset_descriptor", .none, .fields ⟨[.str "__weakref__" 566, .ref 287, .builtin "ExceptionGroup.__weakref__", .none]⟩, ⟨[]⟩⟩
noncomputable def o338 (P : Params) : Obj := ⟨.type "super", .none, .fields ⟨[.ref 287, .ref 287, .ref 287]⟩, ⟨[]⟩⟩
noncomputable def o339 (P : Params) : Obj := ⟨.type "builtin_function_or_method", .none, .fields ⟨[.builtin "object.__init_subclass__", .ref 287]⟩, ⟨[]⟩⟩
noncomputable def o340 (P : Params) : Obj := ⟨.type "dict", .none, .dict ⟨[ky P "__name__" 165 (.str "law_pf0391_01" 630), ky P "__doc__" 166 .none, ky P "__package__" 167 .none, ky P "__loader__" 168 (.builtin "__main__.__loader__#opaque"), ky P "__spec__" 169 .none, ky P "__annotations__" 170 (.ref 6), ky P "__builtins__" 171 (.ref 4), ky P "__file__" 173 (.str "/claim/cut.py" 172), ky P "__cached__" 174 .none, ky P "_wall" 193 (.ref 21), ky P "SwitchError" 224 (.ref 38), ky P "SettingError" 251 (.ref 59), ky P "QueueRow" 318 (.ref 106), ky P "may_go" 327 (.ref 117), ky P "DeficitRound" 396 (.ref 165), ky P "least_multiple" 409 (.ref 176), ky P "WeightedFair" 472 (.ref 217), ky P "GRAINS" 476 (.int 100 475), ky P "Bucket" 570 (.ref 287), ky P "Shaper" 629 (.ref 329), ky P "_law_cells" 639 (.ref 340)]⟩ 21, ⟨[]⟩⟩
noncomputable def o341 (P : Params) : Obj := ⟨.none, .none, .fields ⟨[.int 1 0, .int 0 0, .ref 20, .int 5 0, .int 0 0, .ref 27, .int 10 0, .int 0 0, .ref 47, .int 16 0, .int 0 0, .ref 67, .int 45 0, .int 0 0, .ref 116, .int 47 0, .int 0 0, .ref 123, .int 89 0, .int 0 0, .ref 175, .int 97 0, .int 0 0, .ref 182, .int 137 0, .int 0 0, .ref 227, .int 183 0, .int 0 0, .ref 297, .int 201 0, .int 0 0, .ref 339]⟩, ⟨[]⟩⟩
noncomputable def o342 (P : Params) : Obj := ⟨.type "tuple", .none, .seq ⟨[]⟩ 0, ⟨[]⟩⟩
noncomputable def o343 (P : Params) : Obj := ⟨.type "builtin_function_or_method", .none, .fields ⟨[.builtin "type.__prepare__", .type "type"]⟩, ⟨[]⟩⟩
noncomputable def o344 (P : Params) : Obj := ⟨.type "dict", .none, .dict ⟨[ky P "__module__" 580 (.str "switchloom.shapers" 571), ky P "__qualname__" 582 (.str "Shaper" 581), ky P "__firstlineno__" 584 (.int 183 583), ky P "__init__" 593 (.ref 305), ky P "asked_size" 601 (.ref 312), ky P "when" 611 (.ref 319), ky P "sent" 620 (.ref 326), ky P "__static_attributes__" 622 (.ref 327)]⟩ 8, ⟨[]⟩⟩
noncomputable def o345 (P : Params) : Obj := ⟨.type "tuple", .none, .seq ⟨[]⟩ 0, ⟨[]⟩⟩
noncomputable def o346 (P : Params) : Obj := ⟨.none, .none, .fields ⟨[.int 185 0, .int 4 0, .ref 304, .int 188 0, .int 4 0, .ref 311, .int 191 0, .int 4 0, .ref 318, .int 195 0, .int 4 0, .ref 325]⟩, ⟨[]⟩⟩
noncomputable def o347 (P : Params) : Obj := ⟨.type "code", .none, .fields ⟨[.str "Shaper" 575, .str "Shaper" 576, .str "/claim/cut.py" 577, .int 183 0, .int 0 0, .int 0 0, .int 0 0, .int 0 0, .ref 295, .bool .false, .int 181 0, .ref 296, .none, .none, .none, .none, .int 578 0, .int 183 0, .str "/claim/cut.py" 579]⟩, ⟨[]⟩⟩
noncomputable def o348 (P : Params) : Obj := ⟨.type "frame", .none, .plain, ⟨[.some (.ref 297), .some (.ref 3), .some (.ref 294), .none, .some (.str "switchloom.shapers" 571), .none, .some (.ref 0)]⟩⟩
noncomputable def o349 (P : Params) : Obj := ⟨.type "tuple", .none, .seq ⟨[]⟩ 0, ⟨[]⟩⟩
noncomputable def o350 (P : Params) : Obj := ⟨.none, .none, .fields ⟨[]⟩, ⟨[]⟩⟩
noncomputable def o351 (P : Params) : Obj := ⟨.type "tuple", .none, .seq ⟨[.str "self" 588, .str "rate" 589, .str "burst" 590]⟩ 0, ⟨[]⟩⟩
noncomputable def o352 (P : Params) : Obj := ⟨.type "tuple", .none, .seq ⟨[]⟩ 0, ⟨[]⟩⟩
noncomputable def o353 (P : Params) : Obj := ⟨.none, .none, .func (fn 15 0 "Shaper.__init__" 0 [] .none .none .none .none .none .none .none 0), ⟨[]⟩⟩
noncomputable def o354 (P : Params) : Obj := ⟨.type "code", .none, .fields ⟨[.str "__init__" 585, .str "Shaper.__init__" 586, .str "/claim/cut.py" 587, .int 185 0, .int 3 0, .int 0 0, .int 0 0, .int 3 0, .ref 299, .bool .true, .int 181 0, .ref 300, .none, .ref 301, .ref 302, .ref 303, .int 591 0, .int 185 0, .str "/claim/cut.py" 592]⟩, ⟨[]⟩⟩
noncomputable def o355 (P : Params) : Obj := ⟨.type "function", .none, .func (fn 15 0 "Shaper.__init__" 3 [] .none .none .none (.str "switchloom.shapers" 571) .none (.ref 304) .none 0), ⟨[]⟩⟩
noncomputable def o356 (P : Params) : Obj := ⟨.type "tuple", .none, .seq ⟨[]⟩ 0, ⟨[]⟩⟩
noncomputable def o357 (P : Params) : Obj := ⟨.none, .none, .fields ⟨[]⟩, ⟨[]⟩⟩
noncomputable def o358 (P : Params) : Obj := ⟨.type "tuple", .none, .seq ⟨[.str "self" 597, .str "size" 598]⟩ 0, ⟨[]⟩⟩
noncomputable def o359 (P : Params) : Obj := ⟨.type "tuple", .none, .seq ⟨[]⟩ 0, ⟨[]⟩⟩
noncomputable def o360 (P : Params) : Obj := ⟨.none, .none, .func (fn 15 1 "Shaper.asked_size" 0 [] .none .none .none .none .none .none .none 0), ⟨[]⟩⟩
noncomputable def o361 (P : Params) : Obj := ⟨.type "code", .none, .fields ⟨[.str "asked_size" 594, .str "Shaper.asked_size" 595, .str "/claim/cut.py" 596, .int 188 0, .int 2 0, .int 0 0, .int 0 0, .int 3 0, .ref 306, .bool .true, .int 181 0, .ref 307, .none, .ref 308, .ref 309, .ref 310, .int 599 0, .int 188 0, .str "/claim/cut.py" 600]⟩, ⟨[]⟩⟩
noncomputable def o362 (P : Params) : Obj := ⟨.type "function", .none, .func (fn 15 1 "Shaper.asked_size" 3 [] .none .none .none (.str "switchloom.shapers" 571) .none (.ref 311) .none 0), ⟨[]⟩⟩
noncomputable def o363 (P : Params) : Obj := ⟨.type "tuple", .none, .seq ⟨[]⟩ 0, ⟨[]⟩⟩
noncomputable def o364 (P : Params) : Obj := ⟨.none, .none, .fields ⟨[]⟩, ⟨[]⟩⟩
noncomputable def o365 (P : Params) : Obj := ⟨.type "tuple", .none, .seq ⟨[.str "self" 605, .str "size" 606, .str "now" 607, .str "found" 608]⟩ 0, ⟨[]⟩⟩
noncomputable def o366 (P : Params) : Obj := ⟨.type "tuple", .none, .seq ⟨[]⟩ 0, ⟨[]⟩⟩
noncomputable def o367 (P : Params) : Obj := ⟨.none, .none, .func (fn 15 2 "Shaper.when" 0 [] .none .none .none .none .none .none .none 0), ⟨[]⟩⟩
noncomputable def o368 (P : Params) : Obj := ⟨.type "code", .none, .fields ⟨[.str "when" 602, .str "Shaper.when" 603, .str "/claim/cut.py" 604, .int 191 0, .int 3 0, .int 0 0, .int 0 0, .int 3 0, .ref 313, .bool .true, .int 181 0, .ref 314, .none, .ref 315, .ref 316, .ref 317, .int 609 0, .int 191 0, .str "/claim/cut.py" 610]⟩, ⟨[]⟩⟩
noncomputable def o369 (P : Params) : Obj := ⟨.type "function", .none, .func (fn 15 2 "Shaper.when" 3 [] .none .none .none (.str "switchloom.shapers" 571) .none (.ref 318) .none 0), ⟨[]⟩⟩
noncomputable def o370 (P : Params) : Obj := ⟨.type "tuple", .none, .seq ⟨[]⟩ 0, ⟨[]⟩⟩
noncomputable def o371 (P : Params) : Obj := ⟨.none, .none, .fields ⟨[]⟩, ⟨[]⟩⟩
noncomputable def o372 (P : Params) : Obj := ⟨.type "tuple", .none, .seq ⟨[.str "self" 615, .str "size" 616, .str "now" 617]⟩ 0, ⟨[]⟩⟩
noncomputable def o373 (P : Params) : Obj := ⟨.type "tuple", .none, .seq ⟨[]⟩ 0, ⟨[]⟩⟩
noncomputable def o374 (P : Params) : Obj := ⟨.none, .none, .func (fn 15 3 "Shaper.sent" 0 [] .none .none .none .none .none .none .none 0), ⟨[]⟩⟩
noncomputable def o375 (P : Params) : Obj := ⟨.type "code", .none, .fields ⟨[.str "sent" 612, .str "Shaper.sent" 613, .str "/claim/cut.py" 614, .int 195 0, .int 3 0, .int 0 0, .int 0 0, .int 3 0, .ref 320, .bool .true, .int 181 0, .ref 321, .none, .ref 322, .ref 323, .ref 324, .int 618 0, .int 195 0, .str "/claim/cut.py" 619]⟩, ⟨[]⟩⟩
noncomputable def o376 (P : Params) : Obj := ⟨.type "function", .none, .func (fn 15 3 "Shaper.sent" 3 [] .none .none .none (.str "switchloom.shapers" 571) .none (.ref 325) .none 0), ⟨[]⟩⟩
noncomputable def o377 (P : Params) : Obj := ⟨.type "tuple", .none, .seq ⟨[.str "bucket" 621]⟩ 0, ⟨[]⟩⟩
noncomputable def o378 (P : Params) : Obj := ⟨.type "dict", .none, .dict ⟨[ky P "__module__" 580 (.str "switchloom.shapers" 571), ky P "__firstlineno__" 584 (.int 183 583), ky P "__init__" 593 (.ref 305), ky P "asked_size" 601 (.ref 312), ky P "when" 611 (.ref 319), ky P "sent" 620 (.ref 326), ky P "__static_attributes__" 622 (.ref 327), ky P "__dict__" 624 (.ref 330), ky P "__weakref__" 626 (.ref 331), ky P "__doc__" 627 .none]⟩ 4, ⟨[]⟩⟩
noncomputable def o379 (P : Params) : Obj := ⟨.type "type", .none, .cls ⟨"Shaper", [.type "object"], [.ref 329, .type "object"], 328, "Shaper", .true, [], [], .false, .none, .false⟩, ⟨[.none, .none, .some (.str "Shaper" 573), .some (.str "Shaper" 581), .some (.builtin "object.__new__"), .some (.bool .true)]⟩⟩
noncomputable def o380 (P : Params) : Obj := ⟨.type "getset_descriptor", .none, .fields ⟨[.str "__dict__" 623, .ref 329, .builtin "function.__dict__", .builtin "function.__dict__#set"]⟩, ⟨[]⟩⟩
noncomputable def o381 (P : Params) : Obj := ⟨.type "getset_descriptor", .none, .fields ⟨[.str "__weakref__" 625, .ref 329, .builtin "ExceptionGroup.__weakref__", .none]⟩, ⟨[]⟩⟩
noncomputable def o382 (P : Params) : Obj := ⟨.type "super", .none, .fields ⟨[.ref 329, .ref 329, .ref 329]⟩, ⟨[]⟩⟩
noncomputable def o383 (P : Params) : Obj := ⟨.type "builtin_function_or_method", .none, .fields ⟨[.builtin "object.__init_subclass__", .ref 329]⟩, ⟨[]⟩⟩
noncomputable def o384 (P : Params) : Obj := ⟨.type "tuple", .none, .seq ⟨[]⟩ 0, ⟨[]⟩⟩
noncomputable def o385 (P : Params) : Obj := ⟨.none, .none, .fields ⟨[]⟩, ⟨[]⟩⟩
noncomputable def o386 (P : Params) : Obj := ⟨.type "tuple", .none, .seq ⟨[.str "script" 635, .str "whole" 636]⟩ 0, ⟨[]⟩⟩
noncomputable def o387 (P : Params) : Obj := ⟨.type "tuple", .none, .seq ⟨[]⟩ 0, ⟨[]⟩⟩
noncomputable def o388 (P : Params) : Obj := ⟨.none, .none, .func (fn 17 0 "_law_cells" 0 [] .none .none .none .none .none .none .none 0), ⟨[]⟩⟩
noncomputable def o389 (P : Params) : Obj := ⟨.type "code", .none, .fields ⟨[.str "_law_cells" 632, .str "_law_cells" 633, .str "/claim/cut.py" 634, .int 201 0, .int 1 0, .int 0 0, .int 0 0, .int 3 0, .ref 334, .bool .true, .int 181 0, .ref 335, .none, .ref 336, .ref 337, .ref 338, .int 637 0, .int 201 0, .str "/claim/cut.py" 638]⟩, ⟨[]⟩⟩
noncomputable def o390 (P : Params) : Obj := ⟨.type "function", .none, .func (fn 17 0 "_law_cells" 3 [] .none .none .none (.str "law_pf0391_01" 630) .none (.ref 339) .none 0), ⟨[]⟩⟩
noncomputable def o391 (P : Params) : Obj := ⟨.type "dict", .none, .dict ⟨[ky P "__name__" 165 (.str "law_pf0391_01" 630), ky P "__doc__" 166 .none, ky P "__package__" 167 .none, ky P "__loader__" 168 (.builtin "__main__.__loader__#opaque"), ky P "__spec__" 169 .none, ky P "__annotations__" 170 (.ref 6), ky P "__builtins__" 171 (.ref 4), ky P "__file__" 173 (.str "/claim/cut.py" 172), ky P "__cached__" 174 .none, ky P "_wall" 193 (.ref 21), ky P "SwitchError" 224 (.ref 38), ky P "SettingError" 251 (.ref 59), ky P "QueueRow" 318 (.ref 106), ky P "may_go" 327 (.ref 117), ky P "DeficitRound" 396 (.ref 165), ky P "least_multiple" 409 (.ref 176), ky P "WeightedFair" 472 (.ref 217), ky P "GRAINS" 476 (.int 100 475), ky P "Bucket" 570 (.ref 287), ky P "Shaper" 629 (.ref 329), ky P "_law_cells" 639 (.ref 340), ky P "_law_draw" 648 (.ref 347), ky P "_law_greater" 656 (.ref 354), ky P "_law_has_room" 662 (.ref 359), ky P "_law_put" 668 (.ref 364), ky P "_law_next" 681 (.ref 371), ky P "_law_weighted_right" 687 (.ref 376), ky P "_law_rounds_right" 701 (.ref 383), ky P "_law_shaper_right" 718 (.ref 390), ky P "_law_refused" 726 (.ref 397), ky P "_law_fixed_right" 735 (.ref 404), ky P "law" 741 (.ref 409)]⟩ 32, ⟨[]⟩⟩
noncomputable def o392 (P : Params) : Obj := ⟨.none, .none, .fields ⟨[.int 1 0, .int 0 0, .ref 20, .int 5 0, .int 0 0, .ref 27, .int 10 0, .int 0 0, .ref 47, .int 16 0, .int 0 0, .ref 67, .int 45 0, .int 0 0, .ref 116, .int 47 0, .int 0 0, .ref 123, .int 89 0, .int 0 0, .ref 175, .int 97 0, .int 0 0, .ref 182, .int 137 0, .int 0 0, .ref 227, .int 183 0, .int 0 0, .ref 297, .int 201 0, .int 0 0, .ref 339, .int 204 0, .int 0 0, .ref 346, .int 211 0, .int 0 0, .ref 353, .int 213 0, .int 0 0, .ref 358, .int 215 0, .int 0 0, .ref 363, .int 224 0, .int 0 0, .ref 370, .int 234 0, .int 0 0, .ref 375, .int 251 0, .int 0 0, .ref 382, .int 263 0, .int 0 0, .ref 389, .int 277 0, .int 0 0, .ref 396, .int 283 0, .int 0 0, .ref 403, .int 290 0, .int 0 0, .ref 408]⟩, ⟨[]⟩⟩
noncomputable def o393 (P : Params) : Obj := ⟨.type "tuple", .none, .seq ⟨[]⟩ 0, ⟨[]⟩⟩
noncomputable def o394 (P : Params) : Obj := ⟨.none, .none, .fields ⟨[]⟩, ⟨[]⟩⟩
noncomputable def o395 (P : Params) : Obj := ⟨.type "tuple", .none, .seq ⟨[.str "cells" 643, .str "top" 644, .str "rest" 645]⟩ 0, ⟨[]⟩⟩
noncomputable def o396 (P : Params) : Obj := ⟨.type "tuple", .none, .seq ⟨[]⟩ 0, ⟨[]⟩⟩
noncomputable def o397 (P : Params) : Obj := ⟨.none, .none, .func (fn 18 0 "_law_draw" 0 [] .none .none .none .none .none .none .none 0), ⟨[]⟩⟩
noncomputable def o398 (P : Params) : Obj := ⟨.type "code", .none, .fields ⟨[.str "_law_draw" 640, .str "_law_draw" 641, .str "/claim/cut.py" 642, .int 204 0, .int 2 0, .int 0 0, .int 0 0, .int 3 0, .ref 341, .bool .true, .int 181 0, .ref 342, .none, .ref 343, .ref 344, .ref 345, .int 646 0, .int 204 0, .str "/claim/cut.py" 647]⟩, ⟨[]⟩⟩
noncomputable def o399 (P : Params) : Obj := ⟨.type "function", .none, .func (fn 18 0 "_law_draw" 3 [] .none .none .none (.str "law_pf0391_01" 630) .none (.ref 346) .none 0), ⟨[]⟩⟩
noncomputable def o400 (P : Params) : Obj := ⟨.type "tuple", .none, .seq ⟨[]⟩ 0, ⟨[]⟩⟩
noncomputable def o401 (P : Params) : Obj := ⟨.none, .none, .fields ⟨[]⟩, ⟨[]⟩⟩
noncomputable def o402 (P : Params) : Obj := ⟨.type "tuple", .none, .seq ⟨[.str "one" 652, .str "other" 653]⟩ 0, ⟨[]⟩⟩
noncomputable def o403 (P : Params) : Obj := ⟨.type "tuple", .none, .seq ⟨[]⟩ 0, ⟨[]⟩⟩
noncomputable def o404 (P : Params) : Obj := ⟨.none, .none, .func (fn 19 0 "_law_greater" 0 [] .none .none .none .none .none .none .none 0), ⟨[]⟩⟩
noncomputable def o405 (P : Params) : Obj := ⟨.type "code", .none, .fields ⟨[.str "_law_greater" 649, .str "_law_greater" 650, .str "/claim/cut.py" 651, .int 211 0, .int 2 0, .int 0 0, .int 0 0, .int 3 0, .ref 348, .bool .true, .int 181 0, .ref 349, .none, .ref 350, .ref 351, .ref 352, .int 654 0, .int 211 0, .str "/claim/cut.py" 655]⟩, ⟨[]⟩⟩
noncomputable def o406 (P : Params) : Obj := ⟨.type "function", .none, .func (fn 19 0 "_law_greater" 3 [] .none .none .none (.str "law_pf0391_01" 630) .none (.ref 353) .none 0), ⟨[]⟩⟩
noncomputable def o407 (P : Params) : Obj := ⟨.type "tuple", .none, .seq ⟨[]⟩ 0, ⟨[]⟩⟩
noncomputable def o408 (P : Params) : Obj := ⟨.none, .none, .fields ⟨[]⟩, ⟨[]⟩⟩
noncomputable def o409 (P : Params) : Obj := ⟨.none, .none, .func (fn 20 0 "_law_has_room" 0 [] .none .none .none .none .none .none .none 0), ⟨[]⟩⟩
noncomputable def o410 (P : Params) : Obj := ⟨.type "code", .none, .fields ⟨[.str "_law_has_room" 657, .str "_law_has_room" 658, .str "/claim/cut.py" 659, .int 213 0, .int 3 0, .int 0 0, .int 0 0, .int 3 0, .ref 355, .bool .true, .int 181 0, .ref 356, .none, .none, .none, .ref 357, .int 660 0, .int 213 0, .str "/claim/cut.py" 661]⟩, ⟨[]⟩⟩
noncomputable def o411 (P : Params) : Obj := ⟨.type "function", .none, .func (fn 20 0 "_law_has_room" 3 [] .none .none .none (.str "law_pf0391_01" 630) .none (.ref 358) .none 0), ⟨[]⟩⟩
noncomputable def o412 (P : Params) : Obj := ⟨.type "tuple", .none, .seq ⟨[]⟩ 0, ⟨[]⟩⟩
noncomputable def o413 (P : Params) : Obj := ⟨.none, .none, .fields ⟨[]⟩, ⟨[]⟩⟩
noncomputable def o414 (P : Params) : Obj := ⟨.none, .none, .func (fn 21 0 "_law_put" 0 [] .none .none .none .none .none .none .none 0), ⟨[]⟩⟩
noncomputable def o415 (P : Params) : Obj := ⟨.type "code", .none, .fields ⟨[.str "_law_put" 663, .str "_law_put" 664, .str "/claim/cut.py" 665, .int 215 0, .int 4 0, .int 0 0, .int 0 0, .int 3 0, .ref 360, .bool .true, .int 181 0, .ref 361, .none, .none, .none, .ref 362, .int 666 0, .int 215 0, .str "/claim/cut.py" 667]⟩, ⟨[]⟩⟩
noncomputable def o416 (P : Params) : Obj := ⟨.type "function", .none, .func (fn 21 0 "_law_put" 3 [] .none .none .none (.str "law_pf0391_01" 630) .none (.ref 363) .none 0), ⟨[]⟩⟩
noncomputable def o417 (P : Params) : Obj := ⟨.type "tuple", .none, .seq ⟨[]⟩ 0, ⟨[]⟩⟩
noncomputable def o418 (P : Params) : Obj := ⟨.none, .none, .fields ⟨[]⟩, ⟨[]⟩⟩
noncomputable def o419 (P : Params) : Obj := ⟨.type "tuple", .none, .seq ⟨[.str "book" 672, .str "best" 673, .str "k" 674, .str "row" 675, .str "finish" 676, .str "many" 677, .str "name" 678]⟩ 0, ⟨[]⟩⟩
noncomputable def o420 (P : Params) : Obj := ⟨.type "tuple", .none, .seq ⟨[]⟩ 0, ⟨[]⟩⟩
noncomputable def o421 (P : Params) : Obj := ⟨.none, .none, .func (fn 22 0 "_law_next" 0 [] .none .none .none .none .none .none .none 0), ⟨[]⟩⟩
noncomputable def o422 (P : Params) : Obj := ⟨.type "code", .none, .fields ⟨[.str "_law_next" 669, .str "_law_next" 670, .str "/claim/cut.py" 671, .int 224 0, .int 1 0, .int 0 0, .int 0 0, .int 3 0, .ref 365, .bool .true, .int 181 0, .ref 366, .none, .ref 367, .ref 368, .ref 369, .int 679 0, .int 224 0, .str "/claim/cut.py" 680]⟩, ⟨[]⟩⟩
noncomputable def o423 (P : Params) : Obj := ⟨.type "function", .none, .func (fn 22 0 "_law_next" 3 [] .none .none .none (.str "law_pf0391_01" 630) .none (.ref 370) .none 0), ⟨[]⟩⟩
noncomputable def o424 (P : Params) : Obj := ⟨.type "tuple", .none, .seq ⟨[]⟩ 0, ⟨[]⟩⟩
noncomputable def o425 (P : Params) : Obj := ⟨.none, .none, .fields ⟨[]⟩, ⟨[]⟩⟩
noncomputable def o426 (P : Params) : Obj := ⟨.none, .none, .func (fn 23 0 "_law_weighted_right" 0 [] .none .none .none .none .none .none .none 0), ⟨[]⟩⟩
noncomputable def o427 (P : Params) : Obj := ⟨.type "code", .none, .fields ⟨[.str "_law_weighted_right" 682, .str "_law_weighted_right" 683, .str "/claim/cut.py" 684, .int 234 0, .int 1 0, .int 0 0, .int 0 0, .int 3 0, .ref 372, .bool .true, .int 181 0, .ref 373, .none, .none, .none, .ref 374, .int 685 0, .int 234 0, .str "/claim/cut.py" 686]⟩, ⟨[]⟩⟩
noncomputable def o428 (P : Params) : Obj := ⟨.type "function", .none, .func (fn 23 0 "_law_weighted_right" 3 [] .none .none .none (.str "law_pf0391_01" 630) .none (.ref 375) .none 0), ⟨[]⟩⟩
noncomputable def o429 (P : Params) : Obj := ⟨.type "tuple", .none, .seq ⟨[]⟩ 0, ⟨[]⟩⟩
noncomputable def o430 (P : Params) : Obj := ⟨.none, .none, .fields ⟨[]⟩, ⟨[]⟩⟩
noncomputable def o431 (P : Params) : Obj := ⟨.type "tuple", .none, .seq ⟨[.str "cells" 691, .str "quanta" 692, .str "queues" 693, .str "sent" 694, .str "turn" 695, .str "k" 696, .str "many" 697, .str "name" 698]⟩ 0, ⟨[]⟩⟩
noncomputable def o432 (P : Params) : Obj := ⟨.type "tuple", .none, .seq ⟨[]⟩ 0, ⟨[]⟩⟩
noncomputable def o433 (P : Params) : Obj := ⟨.none, .none, .func (fn 24 0 "_law_rounds_right" 0 [] .none .none .none .none .none .none .none 0), ⟨[]⟩⟩
noncomputable def o434 (P : Params) : Obj := ⟨.type "code", .none, .fields ⟨[.str "_law_rounds_right" 688, .str "_law_rounds_right" 689, .str "/claim/cut.py" 690, .int 251 0, .int 1 0, .int 0 0, .int 0 0, .int 3 0, .ref 377, .bool .true, .int 181 0, .ref 378, .none, .ref 379, .ref 380, .ref 381, .int 699 0, .int 251 0, .str "/claim/cut.py" 700]⟩, ⟨[]⟩⟩
noncomputable def o435 (P : Params) : Obj := ⟨.type "function", .none, .func (fn 24 0 "_law_rounds_right" 3 [] .none .none .none (.str "law_pf0391_01" 630) .none (.ref 382) .none 0), ⟨[]⟩⟩
noncomputable def o436 (P : Params) : Obj := ⟨.type "tuple", .none, .seq ⟨[]⟩ 0, ⟨[]⟩⟩
noncomputable def o437 (P : Params) : Obj := ⟨.none, .none, .fields ⟨[]⟩, ⟨[]⟩⟩
noncomputable def o438 (P : Params) : Obj := ⟨.type "tuple", .none, .seq ⟨[.str "cells" 705, .str "rate" 706, .str "burst" 707, .str "now" 708, .str "gone" 709, .str "shaper" 710, .str "turn" 711, .str "many" 712, .str "first" 713, .str "octets" 714, .str "time" 715]⟩ 0, ⟨[]⟩⟩
noncomputable def o439 (P : Params) : Obj := ⟨.type "tuple", .none, .seq ⟨[]⟩ 0, ⟨[]⟩⟩
noncomputable def o440 (P : Params) : Obj := ⟨.none, .none, .func (fn 25 0 "_law_shaper_right" 0 [] .none .none .none .none .none .none .none 0), ⟨[]⟩⟩
noncomputable def o441 (P : Params) : Obj := ⟨.type "code", .none, .fields ⟨[.str "_law_shaper_right" 702, .str "_law_shaper_right" 703, .str "/claim/cut.py" 704, .int 263 0, .int 1 0, .int 0 0, .int 0 0, .int 3 0, .ref 384, .bool .true, .int 181 0, .ref 385, .none, .ref 386, .ref 387, .ref 388, .int 716 0, .int 263 0, .str "/claim/cut.py" 717]⟩, ⟨[]⟩⟩
noncomputable def o442 (P : Params) : Obj := ⟨.type "function", .none, .func (fn 25 0 "_law_shaper_right" 3 [] .none .none .none (.str "law_pf0391_01" 630) .none (.ref 389) .none 0), ⟨[]⟩⟩
noncomputable def o443 (P : Params) : Obj := ⟨.type "tuple", .none, .seq ⟨[]⟩ 0, ⟨[]⟩⟩
noncomputable def o444 (P : Params) : Obj := ⟨.none, .none, .fields ⟨[]⟩, ⟨[]⟩⟩
noncomputable def o445 (P : Params) : Obj := ⟨.type "tuple", .none, .seq ⟨[.str "quanta" 722, .str "limits" 723]⟩ 0, ⟨[]⟩⟩
noncomputable def o446 (P : Params) : Obj := ⟨.type "tuple", .none, .seq ⟨[]⟩ 0, ⟨[]⟩⟩
noncomputable def o447 (P : Params) : Obj := ⟨.none, .none, .func (fn 26 0 "_law_refused" 0 [] .none .none .none .none .none .none .none 0), ⟨[]⟩⟩
noncomputable def o448 (P : Params) : Obj := ⟨.type "code", .none, .fields ⟨[.str "_law_refused" 719, .str "_law_refused" 720, .str "/claim/cut.py" 721, .int 277 0, .int 2 0, .int 0 0, .int 0 0, .int 3 0, .ref 391, .bool .true, .int 181 0, .ref 392, .none, .ref 393, .ref 394, .ref 395, .int 724 0, .int 277 0, .str "/claim/cut.py" 725]⟩, ⟨[]⟩⟩
noncomputable def o449 (P : Params) : Obj := ⟨.type "function", .none, .func (fn 26 0 "_law_refused" 3 [] .none .none .none (.str "law_pf0391_01" 630) .none (.ref 396) .none 0), ⟨[]⟩⟩
noncomputable def o450 (P : Params) : Obj := ⟨.type "tuple", .none, .seq ⟨[]⟩ 0, ⟨[]⟩⟩
noncomputable def o451 (P : Params) : Obj := ⟨.none, .none, .fields ⟨[]⟩, ⟨[]⟩⟩
noncomputable def o452 (P : Params) : Obj := ⟨.type "tuple", .none, .seq ⟨[.str "queues" 730, .str "put" 731, .str "told" 732]⟩ 0, ⟨[]⟩⟩
noncomputable def o453 (P : Params) : Obj := ⟨.type "tuple", .none, .seq ⟨[]⟩ 0, ⟨[]⟩⟩
noncomputable def o454 (P : Params) : Obj := ⟨.none, .none, .func (fn 27 0 "_law_fixed_right" 0 [] .none .none .none .none .none .none .none 0), ⟨[]⟩⟩
noncomputable def o455 (P : Params) : Obj := ⟨.type "code", .none, .fields ⟨[.str "_law_fixed_right" 727, .str "_law_fixed_right" 728, .str "/claim/cut.py" 729, .int 283 0, .int 0 0, .int 0 0, .int 0 0, .int 3 0, .ref 398, .bool .true, .int 181 0, .ref 399, .none, .ref 400, .ref 401, .ref 402, .int 733 0, .int 283 0, .str "/claim/cut.py" 734]⟩, ⟨[]⟩⟩
noncomputable def o456 (P : Params) : Obj := ⟨.type "function", .none, .func (fn 27 0 "_law_fixed_right" 3 [] .none .none .none (.str "law_pf0391_01" 630) .none (.ref 403) .none 0), ⟨[]⟩⟩
noncomputable def o457 (P : Params) : Obj := ⟨.type "tuple", .none, .seq ⟨[]⟩ 0, ⟨[]⟩⟩
noncomputable def o458 (P : Params) : Obj := ⟨.none, .none, .fields ⟨[]⟩, ⟨[]⟩⟩
noncomputable def o459 (P : Params) : Obj := ⟨.none, .none, .func (fn 28 0 "law" 0 [] .none .none .none .none .none .none .none 0), ⟨[]⟩⟩
noncomputable def o460 (P : Params) : Obj := ⟨.type "code", .none, .fields ⟨[.str "law" 736, .str "law" 737, .str "/claim/cut.py" 738, .int 290 0, .int 1 0, .int 0 0, .int 0 0, .int 3 0, .ref 405, .bool .true, .int 181 0, .ref 406, .none, .none, .none, .ref 407, .int 739 0, .int 290 0, .str "/claim/cut.py" 740]⟩, ⟨[]⟩⟩
noncomputable def o461 (P : Params) : Obj := ⟨.type "function", .none, .func (fn 28 0 "law" 3 [] .none .none .none (.str "law_pf0391_01" 630) .none (.ref 408) .none 0), ⟨[]⟩⟩
noncomputable def tree47 (P : Params) : BT := .node (boot_o_0 P) (.node (boot_o_1 P) (.node (boot_o_3 P) (.node (boot_o_7 P) .nil .nil) (.node (o43 P) .nil .nil)) (.node (boot_o_5 P) (.node (boot_o_9 P) .nil .nil) (.node (o45 P) .nil .nil))) (.node (boot_o_2 P) (.node (boot_o_4 P) (.node (boot_o_8 P) .nil .nil) (.node (o44 P) .nil .nil)) (.node (boot_o_6 P) (.node (boot_o_10 P) .nil .nil) (.node (o46 P) .nil .nil)))
noncomputable def tree78 (P : Params) : BT := .node (boot_o_0 P) (.node (boot_o_1 P) (.node (o50 P) (.node (boot_o_7 P) (.node (o52 P) (.node (o68 P) .nil .nil) .nil) (.node (o60 P) (.node (o76 P) .nil .nil) .nil)) (.node (o43 P) (.node (o56 P) (.node (o72 P) .nil .nil) .nil) (.node (o64 P) .nil .nil))) (.node (boot_o_5 P) (.node (boot_o_9 P) (.node (o54 P) (.node (o70 P) .nil .nil) .nil) (.node (o62 P) (.node (o78 P) .nil .nil) .nil)) (.node (o45 P) (.node (o58 P) (.node (o74 P) .nil .nil) .nil) (.node (o66 P) .nil .nil)))) (.node (o49 P) (.node (boot_o_4 P) (.node (boot_o_8 P) (.node (o53 P) (.node (o69 P) .nil .nil) .nil) (.node (o61 P) (.node (o77 P) .nil .nil) .nil)) (.node (o51 P) (.node (o57 P) (.node (o73 P) .nil .nil) .nil) (.node (o65 P) .nil .nil))) (.node (boot_o_6 P) (.node (boot_o_10 P) (.node (o55 P) (.node (o71 P) .nil .nil) .nil) (.node (o63 P) .nil .nil)) (.node (o46 P) (.node (o59 P) (.node (o75 P) .nil .nil) .nil) (.node (o67 P) .nil .nil))))
noncomputable def tree101 (P : Params) : BT := .node (boot_o_0 P) (.node (boot_o_1 P) (.node (o79 P) (.node (boot_o_7 P) (.node (o52 P) (.node (o68 P) .nil .nil) (.node (o87 P) .nil .nil)) (.node (o60 P) (.node (o76 P) .nil .nil) (.node (o95 P) .nil .nil))) (.node (o43 P) (.node (o56 P) (.node (o72 P) .nil .nil) (.node (o91 P) .nil .nil)) (.node (o64 P) (.node (o83 P) .nil .nil) (.node (o99 P) .nil .nil)))) (.node (boot_o_5 P) (.node (boot_o_9 P) (.node (o54 P) (.node (o70 P) .nil .nil) (.node (o89 P) .nil .nil)) (.node (o62 P) (.node (o78 P) .nil .nil) (.node (o97 P) .nil .nil))) (.node (o45 P) (.node (o58 P) (.node (o74 P) .nil .nil) (.node (o93 P) .nil .nil)) (.node (o66 P) (.node (o85 P) .nil .nil) (.node (o101 P) .nil .nil))))) (.node (o49 P) (.node (boot_o_4 P) (.node (boot_o_8 P) (.node (o53 P) (.node (o69 P) .nil .nil) (.node (o88 P) .nil .nil)) (.node (o61 P) (.node (o77 P) .nil .nil) (.node (o96 P) .nil .nil))) (.node (o80 P) (.node (o57 P) (.node (o73 P) .nil .nil) (.node (o92 P) .nil .nil)) (.node (o65 P) (.node (o84 P) .nil .nil) (.node (o100 P) .nil .nil)))) (.node (boot_o_6 P) (.node (boot_o_10 P) (.node (o55 P) (.node (o71 P) .nil .nil) (.node (o90 P) .nil .nil)) (.node (o63 P) (.node (o82 P) .nil .nil) (.node (o98 P) .nil .nil))) (.node (o46 P) (.node (o59 P) (.node (o81 P) .nil .nil) (.node (o94 P) .nil .nil)) (.node (o67 P) (.node (o86 P) .nil .nil) .nil))))
noncomputable def tree159 (P : Params) : BT := .node (boot_o_0 P) (.node (boot_o_1 P) (.node (o102 P) (.node (boot_o_7 P) (.node (o52 P) (.node (o68 P) (.node (o105 P) .nil .nil) (.node (o137 P) .nil .nil)) (.node (o87 P) (.node (o121 P) .nil .nil) (.node (o153 P) .nil .nil))) (.node (o60 P) (.node (o76 P) (.node (o113 P) .nil .nil) (.node (o145 P) .nil .nil)) (.node (o95 P) (.node (o129 P) .nil .nil) .nil))) (.node (o43 P) (.node (o56 P) (.node (o72 P) (.node (o109 P) .nil .nil) (.node (o141 P) .nil .nil)) (.node (o91 P) (.node (o125 P) .nil .nil) (.node (o157 P) .nil .nil))) (.node (o64 P) (.node (o83 P) (.node (o117 P) .nil .nil) (.node (o149 P) .nil .nil)) (.node (o99 P) (.node (o133 P) .nil .nil) .nil)))) (.node (boot_o_5 P) (.node (boot_o_9 P) (.node (o54 P) (.node (o70 P) (.node (o107 P) .nil .nil) (.node (o139 P) .nil .nil)) (.node (o89 P) (.node (o123 P) .nil .nil) (.node (o155 P) .nil .nil))) (.node (o62 P) (.node (o78 P) (.node (o115 P) .nil .nil) (.node (o147 P) .nil .nil)) (.node (o97 P) (.node (o131 P) .nil .nil) .nil))) (.node (o45 P) (.node (o58 P) (.node (o74 P) (.node (o111 P) .nil .nil) (.node (o143 P) .nil .nil)) (.node (o93 P) (.node (o127 P) .nil .nil) (.node (o159 P) .nil .nil))) (.node (o66 P) (.node (o85 P) (.node (o119 P) .nil .nil) (.node (o151 P) .nil .nil)) (.node (o101 P) (.node (o135 P) .nil .nil) .nil))))) (.node (o49 P) (.node (boot_o_4 P) (.node (boot_o_8 P) (.node (o53 P) (.node (o69 P) (.node (o106 P) .nil .nil) (.node (o138 P) .nil .nil)) (.node (o88 P) (.node (o122 P) .nil .nil) (.node (o154 P) .nil .nil))) (.node (o61 P) (.node (o77 P) (.node (o114 P) .nil .nil) (.node (o146 P) .nil .nil)) (.node (o96 P) (.node (o130 P) .nil .nil) .nil))) (.node (o103 P) (.node (o57 P) (.node (o73 P) (.node (o110 P) .nil .nil) (.node (o142 P) .nil .nil)) (.node (o92 P) (.node (o126 P) .nil .nil) (.node (o158 P) .nil .nil))) (.node (o65 P) (.node (o84 P) (.node (o118 P) .nil .nil) (.node (o150 P) .nil .nil)) (.node (o100 P) (.node (o134 P) .nil .nil) .nil)))) (.node (boot_o_6 P) (.node (boot_o_10 P) (.node (o55 P) (.node (o71 P) (.node (o108 P) .nil .nil) (.node (o140 P) .nil .nil)) (.node (o90 P) (.node (o124 P) .nil .nil) (.node (o156 P) .nil .nil))) (.node (o63 P) (.node (o82 P) (.node (o116 P) .nil .nil) (.node (o148 P) .nil .nil)) (.node (o98 P) (.node (o132 P) .nil .nil) .nil))) (.node (o46 P) (.node (o59 P) (.node (o81 P) (.node (o112 P) .nil .nil) (.node (o144 P) .nil .nil)) (.node (o94 P) (.node (o128 P) .nil .nil) .nil)) (.node (o67 P) (.node (o86 P) (.node (o120 P) .nil .nil) (.node (o152 P) .nil .nil)) (.node (o104 P) (.node (o136 P) .nil .nil) .nil)))))
noncomputable def tree213 (P : Params) : BT := .node (boot_o_0 P) (.node (boot_o_1 P) (.node (o160 P) (.node (boot_o_7 P) (.node (o52 P) (.node (o68 P) (.node (o105 P) (.node (o171 P) .nil .nil) .nil) (.node (o137 P) (.node (o203 P) .nil .nil) .nil)) (.node (o87 P) (.node (o121 P) (.node (o187 P) .nil .nil) .nil) (.node (o153 P) .nil .nil))) (.node (o60 P) (.node (o76 P) (.node (o113 P) (.node (o179 P) .nil .nil) .nil) (.node (o145 P) (.node (o211 P) .nil .nil) .nil)) (.node (o95 P) (.node (o129 P) (.node (o195 P) .nil .nil) .nil) (.node (o163 P) .nil .nil)))) (.node (o43 P) (.node (o56 P) (.node (o72 P) (.node (o109 P) (.node (o175 P) .nil .nil) .nil) (.node (o141 P) (.node (o207 P) .nil .nil) .nil)) (.node (o91 P) (.node (o125 P) (.node (o191 P) .nil .nil) .nil) (.node (o157 P) .nil .nil))) (.node (o64 P) (.node (o83 P) (.node (o117 P) (.node (o183 P) .nil .nil) .nil) (.node (o149 P) .nil .nil)) (.node (o99 P) (.node (o133 P) (.node (o199 P) .nil .nil) .nil) (.node (o167 P) .nil .nil))))) (.node (boot_o_5 P) (.node (boot_o_9 P) (.node (o54 P) (.node (o70 P) (.node (o107 P) (.node (o173 P) .nil .nil) .nil) (.node (o139 P) (.node (o205 P) .nil .nil) .nil)) (.node (o89 P) (.node (o123 P) (.node (o189 P) .nil .nil) .nil) (.node (o155 P) .nil .nil))) (.node (o62 P) (.node (o78 P) (.node (o115 P) (.node (o181 P) .nil .nil) .nil) (.node (o147 P) (.node (o213 P) .nil .nil) .nil)) (.node (o97 P) (.node (o131 P) (.node (o197 P) .nil .nil) .nil) (.node (o165 P) .nil .nil)))) (.node (o45 P) (.node (o58 P) (.node (o74 P) (.node (o111 P) (.node (o177 P) .nil .nil) .nil) (.node (o143 P) (.node (o209 P) .nil .nil) .nil)) (.node (o93 P) (.node (o127 P) (.node (o193 P) .nil .nil) .nil) (.node (o159 P) .nil .nil))) (.node (o66 P) (.node (o85 P) (.node (o119 P) (.node (o185 P) .nil .nil) .nil) (.node (o151 P) .nil .nil)) (.node (o101 P) (.node (o135 P) (.node (o201 P) .nil .nil) .nil) (.node (o169 P) .nil .nil)))))) (.node (o49 P) (.node (boot_o_4 P) (.node (boot_o_8 P) (.node (o53 P) (.node (o69 P) (.node (o106 P) (.node (o172 P) .nil .nil) .nil) (.node (o138 P) (.node (o204 P) .nil .nil) .nil)) (.node (o88 P) (.node (o122 P) (.node (o188 P) .nil .nil) .nil) (.node (o154 P) .nil .nil))) (.node (o61 P) (.node (o77 P) (.node (o114 P) (.node (o180 P) .nil .nil) .nil) (.node (o146 P) (.node (o212 P) .nil .nil) .nil)) (.node (o96 P) (.node (o130 P) (.node (o196 P) .nil .nil) .nil) (.node (o164 P) .nil .nil)))) (.node (o161 P) (.node (o57 P) (.node (o73 P) (.node (o110 P) (.node (o176 P) .nil .nil) .nil) (.node (o142 P) (.node (o208 P) .nil .nil) .nil)) (.node (o92 P) (.node (o126 P) (.node (o192 P) .nil .nil) .nil) (.node (o158 P) .nil .nil))) (.node (o65 P) (.node (o84 P) (.node (o118 P) (.node (o184 P) .nil .nil) .nil) (.node (o150 P) .nil .nil)) (.node (o100 P) (.node (o134 P) (.node (o200 P) .nil .nil) .nil) (.node (o168 P) .nil .nil))))) (.node (boot_o_6 P) (.node (boot_o_10 P) (.node (o55 P) (.node (o71 P) (.node (o108 P) (.node (o174 P) .nil .nil) .nil) (.node (o140 P) (.node (o206 P) .nil .nil) .nil)) (.node (o90 P) (.node (o124 P) (.node (o190 P) .nil .nil) .nil) (.node (o156 P) .nil .nil))) (.node (o63 P) (.node (o82 P) (.node (o116 P) (.node (o182 P) .nil .nil) .nil) (.node (o148 P) .nil .nil)) (.node (o98 P) (.node (o132 P) (.node (o198 P) .nil .nil) .nil) (.node (o166 P) .nil .nil)))) (.node (o46 P) (.node (o59 P) (.node (o81 P) (.node (o112 P) (.node (o178 P) .nil .nil) .nil) (.node (o144 P) (.node (o210 P) .nil .nil) .nil)) (.node (o94 P) (.node (o128 P) (.node (o194 P) .nil .nil) .nil) (.node (o162 P) .nil .nil))) (.node (o67 P) (.node (o86 P) (.node (o120 P) (.node (o186 P) .nil .nil) .nil) (.node (o152 P) .nil .nil)) (.node (o104 P) (.node (o136 P) (.node (o202 P) .nil .nil) .nil) (.node (o170 P) .nil .nil))))))
noncomputable def tree267 (P : Params) : BT := .node (boot_o_0 P) (.node (boot_o_1 P) (.node (o214 P) (.node (boot_o_7 P) (.node (o52 P) (.node (o68 P) (.node (o105 P) (.node (o171 P) .nil .nil) (.node (o237 P) .nil .nil)) (.node (o137 P) (.node (o203 P) .nil .nil) .nil)) (.node (o87 P) (.node (o121 P) (.node (o187 P) .nil .nil) (.node (o253 P) .nil .nil)) (.node (o153 P) (.node (o221 P) .nil .nil) .nil))) (.node (o60 P) (.node (o76 P) (.node (o113 P) (.node (o179 P) .nil .nil) (.node (o245 P) .nil .nil)) (.node (o145 P) (.node (o211 P) .nil .nil) .nil)) (.node (o95 P) (.node (o129 P) (.node (o195 P) .nil .nil) (.node (o261 P) .nil .nil)) (.node (o163 P) (.node (o229 P) .nil .nil) .nil)))) (.node (o43 P) (.node (o56 P) (.node (o72 P) (.node (o109 P) (.node (o175 P) .nil .nil) (.node (o241 P) .nil .nil)) (.node (o141 P) (.node (o207 P) .nil .nil) .nil)) (.node (o91 P) (.node (o125 P) (.node (o191 P) .nil .nil) (.node (o257 P) .nil .nil)) (.node (o157 P) (.node (o225 P) .nil .nil) .nil))) (.node (o64 P) (.node (o83 P) (.node (o117 P) (.node (o183 P) .nil .nil) (.node (o249 P) .nil .nil)) (.node (o149 P) (.node (o217 P) .nil .nil) .nil)) (.node (o99 P) (.node (o133 P) (.node (o199 P) .nil .nil) (.node (o265 P) .nil .nil)) (.node (o167 P) (.node (o233 P) .nil .nil) .nil))))) (.node (boot_o_5 P) (.node (boot_o_9 P) (.node (o54 P) (.node (o70 P) (.node (o107 P) (.node (o173 P) .nil .nil) (.node (o239 P) .nil .nil)) (.node (o139 P) (.node (o205 P) .nil .nil) .nil)) (.node (o89 P) (.node (o123 P) (.node (o189 P) .nil .nil) (.node (o255 P) .nil .nil)) (.node (o155 P) (.node (o223 P) .nil .nil) .nil))) (.node (o62 P) (.node (o78 P) (.node (o115 P) (.node (o181 P) .nil .nil) (.node (o247 P) .nil .nil)) (.node (o147 P) (.node (o213 P) .nil .nil) .nil)) (.node (o97 P) (.node (o131 P) (.node (o197 P) .nil .nil) (.node (o263 P) .nil .nil)) (.node (o165 P) (.node (o231 P) .nil .nil) .nil)))) (.node (o45 P) (.node (o58 P) (.node (o74 P) (.node (o111 P) (.node (o177 P) .nil .nil) (.node (o243 P) .nil .nil)) (.node (o143 P) (.node (o209 P) .nil .nil) .nil)) (.node (o93 P) (.node (o127 P) (.node (o193 P) .nil .nil) (.node (o259 P) .nil .nil)) (.node (o159 P) (.node (o227 P) .nil .nil) .nil))) (.node (o66 P) (.node (o85 P) (.node (o119 P) (.node (o185 P) .nil .nil) (.node (o251 P) .nil .nil)) (.node (o151 P) (.node (o219 P) .nil .nil) .nil)) (.node (o101 P) (.node (o135 P) (.node (o201 P) .nil .nil) (.node (o267 P) .nil .nil)) (.node (o169 P) (.node (o235 P) .nil .nil) .nil)))))) (.node (o49 P) (.node (boot_o_4 P) (.node (boot_o_8 P) (.node (o53 P) (.node (o69 P) (.node (o106 P) (.node (o172 P) .nil .nil) (.node (o238 P) .nil .nil)) (.node (o138 P) (.node (o204 P) .nil .nil) .nil)) (.node (o88 P) (.node (o122 P) (.node (o188 P) .nil .nil) (.node (o254 P) .nil .nil)) (.node (o154 P) (.node (o222 P) .nil .nil) .nil))) (.node (o61 P) (.node (o77 P) (.node (o114 P) (.node (o180 P) .nil .nil) (.node (o246 P) .nil .nil)) (.node (o146 P) (.node (o212 P) .nil .nil) .nil)) (.node (o96 P) (.node (o130 P) (.node (o196 P) .nil .nil) (.node (o262 P) .nil .nil)) (.node (o164 P) (.node (o230 P) .nil .nil) .nil)))) (.node (o215 P) (.node (o57 P) (.node (o73 P) (.node (o110 P) (.node (o176 P) .nil .nil) (.node (o242 P) .nil .nil)) (.node (o142 P) (.node (o208 P) .nil .nil) .nil)) (.node (o92 P) (.node (o126 P) (.node (o192 P) .nil .nil) (.node (o258 P) .nil .nil)) (.node (o158 P) (.node (o226 P) .nil .nil) .nil))) (.node (o65 P) (.node (o84 P) (.node (o118 P) (.node (o184 P) .nil .nil) (.node (o250 P) .nil .nil)) (.node (o150 P) (.node (o218 P) .nil .nil) .nil)) (.node (o100 P) (.node (o134 P) (.node (o200 P) .nil .nil) (.node (o266 P) .nil .nil)) (.node (o168 P) (.node (o234 P) .nil .nil) .nil))))) (.node (boot_o_6 P) (.node (boot_o_10 P) (.node (o55 P) (.node (o71 P) (.node (o108 P) (.node (o174 P) .nil .nil) (.node (o240 P) .nil .nil)) (.node (o140 P) (.node (o206 P) .nil .nil) .nil)) (.node (o90 P) (.node (o124 P) (.node (o190 P) .nil .nil) (.node (o256 P) .nil .nil)) (.node (o156 P) (.node (o224 P) .nil .nil) .nil))) (.node (o63 P) (.node (o82 P) (.node (o116 P) (.node (o182 P) .nil .nil) (.node (o248 P) .nil .nil)) (.node (o148 P) (.node (o216 P) .nil .nil) .nil)) (.node (o98 P) (.node (o132 P) (.node (o198 P) .nil .nil) (.node (o264 P) .nil .nil)) (.node (o166 P) (.node (o232 P) .nil .nil) .nil)))) (.node (o46 P) (.node (o59 P) (.node (o81 P) (.node (o112 P) (.node (o178 P) .nil .nil) (.node (o244 P) .nil .nil)) (.node (o144 P) (.node (o210 P) .nil .nil) .nil)) (.node (o94 P) (.node (o128 P) (.node (o194 P) .nil .nil) (.node (o260 P) .nil .nil)) (.node (o162 P) (.node (o228 P) .nil .nil) .nil))) (.node (o67 P) (.node (o86 P) (.node (o120 P) (.node (o186 P) .nil .nil) (.node (o252 P) .nil .nil)) (.node (o152 P) (.node (o220 P) .nil .nil) .nil)) (.node (o104 P) (.node (o136 P) (.node (o202 P) .nil .nil) .nil) (.node (o170 P) (.node (o236 P) .nil .nil) .nil))))))
noncomputable def tree339 (P : Params) : BT := .node (boot_o_0 P) (.node (boot_o_1 P) (.node (o268 P) (.node (boot_o_7 P) (.node (o52 P) (.node (o68 P) (.node (o105 P) (.node (o171 P) (.node (o303 P) .nil .nil) .nil) (.node (o237 P) .nil .nil)) (.node (o137 P) (.node (o203 P) (.node (o335 P) .nil .nil) .nil) (.node (o271 P) .nil .nil))) (.node (o87 P) (.node (o121 P) (.node (o187 P) (.node (o319 P) .nil .nil) .nil) (.node (o253 P) .nil .nil)) (.node (o153 P) (.node (o221 P) .nil .nil) (.node (o287 P) .nil .nil)))) (.node (o60 P) (.node (o76 P) (.node (o113 P) (.node (o179 P) (.node (o311 P) .nil .nil) .nil) (.node (o245 P) .nil .nil)) (.node (o145 P) (.node (o211 P) .nil .nil) (.node (o279 P) .nil .nil))) (.node (o95 P) (.node (o129 P) (.node (o195 P) (.node (o327 P) .nil .nil) .nil) (.node (o261 P) .nil .nil)) (.node (o163 P) (.node (o229 P) .nil .nil) (.node (o295 P) .nil .nil))))) (.node (o43 P) (.node (o56 P) (.node (o72 P) (.node (o109 P) (.node (o175 P) (.node (o307 P) .nil .nil) .nil) (.node (o241 P) .nil .nil)) (.node (o141 P) (.node (o207 P) (.node (o339 P) .nil .nil) .nil) (.node (o275 P) .nil .nil))) (.node (o91 P) (.node (o125 P) (.node (o191 P) (.node (o323 P) .nil .nil) .nil) (.node (o257 P) .nil .nil)) (.node (o157 P) (.node (o225 P) .nil .nil) (.node (o291 P) .nil .nil)))) (.node (o64 P) (.node (o83 P) (.node (o117 P) (.node (o183 P) (.node (o315 P) .nil .nil) .nil) (.node (o249 P) .nil .nil)) (.node (o149 P) (.node (o217 P) .nil .nil) (.node (o283 P) .nil .nil))) (.node (o99 P) (.node (o133 P) (.node (o199 P) (.node (o331 P) .nil .nil) .nil) (.node (o265 P) .nil .nil)) (.node (o167 P) (.node (o233 P) .nil .nil) (.node (o299 P) .nil .nil)))))) (.node (boot_o_5 P) (.node (boot_o_9 P) (.node (o54 P) (.node (o70 P) (.node (o107 P) (.node (o173 P) (.node (o305 P) .nil .nil) .nil) (.node (o239 P) .nil .nil)) (.node (o139 P) (.node (o205 P) (.node (o337 P) .nil .nil) .nil) (.node (o273 P) .nil .nil))) (.node (o89 P) (.node (o123 P) (.node (o189 P) (.node (o321 P) .nil .nil) .nil) (.node (o255 P) .nil .nil)) (.node (o155 P) (.node (o223 P) .nil .nil) (.node (o289 P) .nil .nil)))) (.node (o62 P) (.node (o78 P) (.node (o115 P) (.node (o181 P) (.node (o313 P) .nil .nil) .nil) (.node (o247 P) .nil .nil)) (.node (o147 P) (.node (o213 P) .nil .nil) (.node (o281 P) .nil .nil))) (.node (o97 P) (.node (o131 P) (.node (o197 P) (.node (o329 P) .nil .nil) .nil) (.node (o263 P) .nil .nil)) (.node (o165 P) (.node (o231 P) .nil .nil) (.node (o297 P) .nil .nil))))) (.node (o45 P) (.node (o58 P) (.node (o74 P) (.node (o111 P) (.node (o177 P) (.node (o309 P) .nil .nil) .nil) (.node (o243 P) .nil .nil)) (.node (o143 P) (.node (o209 P) .nil .nil) (.node (o277 P) .nil .nil))) (.node (o93 P) (.node (o127 P) (.node (o193 P) (.node (o325 P) .nil .nil) .nil) (.node (o259 P) .nil .nil)) (.node (o159 P) (.node (o227 P) .nil .nil) (.node (o293 P) .nil .nil)))) (.node (o66 P) (.node (o85 P) (.node (o119 P) (.node (o185 P) (.node (o317 P) .nil .nil) .nil) (.node (o251 P) .nil .nil)) (.node (o151 P) (.node (o219 P) .nil .nil) (.node (o285 P) .nil .nil))) (.node (o101 P) (.node (o135 P) (.node (o201 P) (.node (o333 P) .nil .nil) .nil) (.node (o267 P) .nil .nil)) (.node (o169 P) (.node (o235 P) .nil .nil) (.node (o301 P) .nil .nil))))))) (.node (o49 P) (.node (boot_o_4 P) (.node (boot_o_8 P) (.node (o53 P) (.node (o69 P) (.node (o106 P) (.node (o172 P) (.node (o304 P) .nil .nil) .nil) (.node (o238 P) .nil .nil)) (.node (o138 P) (.node (o204 P) (.node (o336 P) .nil .nil) .nil) (.node (o272 P) .nil .nil))) (.node (o88 P) (.node (o122 P) (.node (o188 P) (.node (o320 P) .nil .nil) .nil) (.node (o254 P) .nil .nil)) (.node (o154 P) (.node (o222 P) .nil .nil) (.node (o288 P) .nil .nil)))) (.node (o61 P) (.node (o77 P) (.node (o114 P) (.node (o180 P) (.node (o312 P) .nil .nil) .nil) (.node (o246 P) .nil .nil)) (.node (o146 P) (.node (o212 P) .nil .nil) (.node (o280 P) .nil .nil))) (.node (o96 P) (.node (o130 P) (.node (o196 P) (.node (o328 P) .nil .nil) .nil) (.node (o262 P) .nil .nil)) (.node (o164 P) (.node (o230 P) .nil .nil) (.node (o296 P) .nil .nil))))) (.node (o269 P) (.node (o57 P) (.node (o73 P) (.node (o110 P) (.node (o176 P) (.node (o308 P) .nil .nil) .nil) (.node (o242 P) .nil .nil)) (.node (o142 P) (.node (o208 P) .nil .nil) (.node (o276 P) .nil .nil))) (.node (o92 P) (.node (o126 P) (.node (o192 P) (.node (o324 P) .nil .nil) .nil) (.node (o258 P) .nil .nil)) (.node (o158 P) (.node (o226 P) .nil .nil) (.node (o292 P) .nil .nil)))) (.node (o65 P) (.node (o84 P) (.node (o118 P) (.node (o184 P) (.node (o316 P) .nil .nil) .nil) (.node (o250 P) .nil .nil)) (.node (o150 P) (.node (o218 P) .nil .nil) (.node (o284 P) .nil .nil))) (.node (o100 P) (.node (o134 P) (.node (o200 P) (.node (o332 P) .nil .nil) .nil) (.node (o266 P) .nil .nil)) (.node (o168 P) (.node (o234 P) .nil .nil) (.node (o300 P) .nil .nil)))))) (.node (boot_o_6 P) (.node (boot_o_10 P) (.node (o55 P) (.node (o71 P) (.node (o108 P) (.node (o174 P) (.node (o306 P) .nil .nil) .nil) (.node (o240 P) .nil .nil)) (.node (o140 P) (.node (o206 P) (.node (o338 P) .nil .nil) .nil) (.node (o274 P) .nil .nil))) (.node (o90 P) (.node (o124 P) (.node (o190 P) (.node (o322 P) .nil .nil) .nil) (.node (o256 P) .nil .nil)) (.node (o156 P) (.node (o224 P) .nil .nil) (.node (o290 P) .nil .nil)))) (.node (o63 P) (.node (o82 P) (.node (o116 P) (.node (o182 P) (.node (o314 P) .nil .nil) .nil) (.node (o248 P) .nil .nil)) (.node (o148 P) (.node (o216 P) .nil .nil) (.node (o282 P) .nil .nil))) (.node (o98 P) (.node (o132 P) (.node (o198 P) (.node (o330 P) .nil .nil) .nil) (.node (o264 P) .nil .nil)) (.node (o166 P) (.node (o232 P) .nil .nil) (.node (o298 P) .nil .nil))))) (.node (o46 P) (.node (o59 P) (.node (o81 P) (.node (o112 P) (.node (o178 P) (.node (o310 P) .nil .nil) .nil) (.node (o244 P) .nil .nil)) (.node (o144 P) (.node (o210 P) .nil .nil) (.node (o278 P) .nil .nil))) (.node (o94 P) (.node (o128 P) (.node (o194 P) (.node (o326 P) .nil .nil) .nil) (.node (o260 P) .nil .nil)) (.node (o162 P) (.node (o228 P) .nil .nil) (.node (o294 P) .nil .nil)))) (.node (o67 P) (.node (o86 P) (.node (o120 P) (.node (o186 P) (.node (o318 P) .nil .nil) .nil) (.node (o252 P) .nil .nil)) (.node (o152 P) (.node (o220 P) .nil .nil) (.node (o286 P) .nil .nil))) (.node (o104 P) (.node (o136 P) (.node (o202 P) (.node (o334 P) .nil .nil) .nil) (.node (o270 P) .nil .nil)) (.node (o170 P) (.node (o236 P) .nil .nil) (.node (o302 P) .nil .nil)))))))
noncomputable def tree390 (P : Params) : BT := .node (boot_o_0 P) (.node (boot_o_1 P) (.node (o340 P) (.node (boot_o_7 P) (.node (o52 P) (.node (o68 P) (.node (o105 P) (.node (o171 P) (.node (o303 P) .nil .nil) .nil) (.node (o237 P) (.node (o369 P) .nil .nil) .nil)) (.node (o137 P) (.node (o203 P) (.node (o335 P) .nil .nil) .nil) (.node (o271 P) .nil .nil))) (.node (o87 P) (.node (o121 P) (.node (o187 P) (.node (o319 P) .nil .nil) .nil) (.node (o253 P) (.node (o385 P) .nil .nil) .nil)) (.node (o153 P) (.node (o221 P) (.node (o353 P) .nil .nil) .nil) (.node (o287 P) .nil .nil)))) (.node (o60 P) (.node (o76 P) (.node (o113 P) (.node (o179 P) (.node (o311 P) .nil .nil) .nil) (.node (o245 P) (.node (o377 P) .nil .nil) .nil)) (.node (o145 P) (.node (o211 P) (.node (o345 P) .nil .nil) .nil) (.node (o279 P) .nil .nil))) (.node (o95 P) (.node (o129 P) (.node (o195 P) (.node (o327 P) .nil .nil) .nil) (.node (o261 P) .nil .nil)) (.node (o163 P) (.node (o229 P) (.node (o361 P) .nil .nil) .nil) (.node (o295 P) .nil .nil))))) (.node (o43 P) (.node (o56 P) (.node (o72 P) (.node (o109 P) (.node (o175 P) (.node (o307 P) .nil .nil) .nil) (.node (o241 P) (.node (o373 P) .nil .nil) .nil)) (.node (o141 P) (.node (o207 P) (.node (o339 P) .nil .nil) .nil) (.node (o275 P) .nil .nil))) (.node (o91 P) (.node (o125 P) (.node (o191 P) (.node (o323 P) .nil .nil) .nil) (.node (o257 P) (.node (o389 P) .nil .nil) .nil)) (.node (o157 P) (.node (o225 P) (.node (o357 P) .nil .nil) .nil) (.node (o291 P) .nil .nil)))) (.node (o64 P) (.node (o83 P) (.node (o117 P) (.node (o183 P) (.node (o315 P) .nil .nil) .nil) (.node (o249 P) (.node (o381 P) .nil .nil) .nil)) (.node (o149 P) (.node (o217 P) (.node (o349 P) .nil .nil) .nil) (.node (o283 P) .nil .nil))) (.node (o99 P) (.node (o133 P) (.node (o199 P) (.node (o331 P) .nil .nil) .nil) (.node (o265 P) .nil .nil)) (.node (o167 P) (.node (o233 P) (.node (o365 P) .nil .nil) .nil) (.node (o299 P) .nil .nil)))))) (.node (boot_o_5 P) (.node (boot_o_9 P) (.node (o54 P) (.node (o70 P) (.node (o107 P) (.node (o173 P) (.node (o305 P) .nil .nil) .nil) (.node (o239 P) (.node (o371 P) .nil .nil) .nil)) (.node (o139 P) (.node (o205 P) (.node (o337 P) .nil .nil) .nil) (.node (o273 P) .nil .nil))) (.node (o89 P) (.node (o123 P) (.node (o189 P) (.node (o321 P) .nil .nil) .nil) (.node (o255 P) (.node (o387 P) .nil .nil) .nil)) (.node (o155 P) (.node (o223 P) (.node (o355 P) .nil .nil) .nil) (.node (o289 P) .nil .nil)))) (.node (o62 P) (.node (o78 P) (.node (o115 P) (.node (o181 P) (.node (o313 P) .nil .nil) .nil) (.node (o247 P) (.node (o379 P) .nil .nil) .nil)) (.node (o147 P) (.node (o213 P) (.node (o347 P) .nil .nil) .nil) (.node (o281 P) .nil .nil))) (.node (o97 P) (.node (o131 P) (.node (o197 P) (.node (o329 P) .nil .nil) .nil) (.node (o263 P) .nil .nil)) (.node (o165 P) (.node (o231 P) (.node (o363 P) .nil .nil) .nil) (.node (o297 P) .nil .nil))))) (.node (o45 P) (.node (o58 P) (.node (o74 P) (.node (o111 P) (.node (o177 P) (.node (o309 P) .nil .nil) .nil) (.node (o243 P) (.node (o375 P) .nil .nil) .nil)) (.node (o143 P) (.node (o209 P) (.node (o343 P) .nil .nil) .nil) (.node (o277 P) .nil .nil))) (.node (o93 P) (.node (o127 P) (.node (o193 P) (.node (o325 P) .nil .nil) .nil) (.node (o259 P) .nil .nil)) (.node (o159 P) (.node (o227 P) (.node (o359 P) .nil .nil) .nil) (.node (o293 P) .nil .nil)))) (.node (o66 P) (.node (o85 P) (.node (o119 P) (.node (o185 P) (.node (o317 P) .nil .nil) .nil) (.node (o251 P) (.node (o383 P) .nil .nil) .nil)) (.node (o151 P) (.node (o219 P) (.node (o351 P) .nil .nil) .nil) (.node (o285 P) .nil .nil))) (.node (o101 P) (.node (o135 P) (.node (o201 P) (.node (o333 P) .nil .nil) .nil) (.node (o267 P) .nil .nil)) (.node (o169 P) (.node (o235 P) (.node (o367 P) .nil .nil) .nil) (.node (o301 P) .nil .nil))))))) (.node (o49 P) (.node (boot_o_4 P) (.node (boot_o_8 P) (.node (o53 P) (.node (o69 P) (.node (o106 P) (.node (o172 P) (.node (o304 P) .nil .nil) .nil) (.node (o238 P) (.node (o370 P) .nil .nil) .nil)) (.node (o138 P) (.node (o204 P) (.node (o336 P) .nil .nil) .nil) (.node (o272 P) .nil .nil))) (.node (o88 P) (.node (o122 P) (.node (o188 P) (.node (o320 P) .nil .nil) .nil) (.node (o254 P) (.node (o386 P) .nil .nil) .nil)) (.node (o154 P) (.node (o222 P) (.node (o354 P) .nil .nil) .nil) (.node (o288 P) .nil .nil)))) (.node (o61 P) (.node (o77 P) (.node (o114 P) (.node (o180 P) (.node (o312 P) .nil .nil) .nil) (.node (o246 P) (.node (o378 P) .nil .nil) .nil)) (.node (o146 P) (.node (o212 P) (.node (o346 P) .nil .nil) .nil) (.node (o280 P) .nil .nil))) (.node (o96 P) (.node (o130 P) (.node (o196 P) (.node (o328 P) .nil .nil) .nil) (.node (o262 P) .nil .nil)) (.node (o164 P) (.node (o230 P) (.node (o362 P) .nil .nil) .nil) (.node (o296 P) .nil .nil))))) (.node (o341 P) (.node (o57 P) (.node (o73 P) (.node (o110 P) (.node (o176 P) (.node (o308 P) .nil .nil) .nil) (.node (o242 P) (.node (o374 P) .nil .nil) .nil)) (.node (o142 P) (.node (o208 P) (.node (o342 P) .nil .nil) .nil) (.node (o276 P) .nil .nil))) (.node (o92 P) (.node (o126 P) (.node (o192 P) (.node (o324 P) .nil .nil) .nil) (.node (o258 P) (.node (o390 P) .nil .nil) .nil)) (.node (o158 P) (.node (o226 P) (.node (o358 P) .nil .nil) .nil) (.node (o292 P) .nil .nil)))) (.node (o65 P) (.node (o84 P) (.node (o118 P) (.node (o184 P) (.node (o316 P) .nil .nil) .nil) (.node (o250 P) (.node (o382 P) .nil .nil) .nil)) (.node (o150 P) (.node (o218 P) (.node (o350 P) .nil .nil) .nil) (.node (o284 P) .nil .nil))) (.node (o100 P) (.node (o134 P) (.node (o200 P) (.node (o332 P) .nil .nil) .nil) (.node (o266 P) .nil .nil)) (.node (o168 P) (.node (o234 P) (.node (o366 P) .nil .nil) .nil) (.node (o300 P) .nil .nil)))))) (.node (boot_o_6 P) (.node (boot_o_10 P) (.node (o55 P) (.node (o71 P) (.node (o108 P) (.node (o174 P) (.node (o306 P) .nil .nil) .nil) (.node (o240 P) (.node (o372 P) .nil .nil) .nil)) (.node (o140 P) (.node (o206 P) (.node (o338 P) .nil .nil) .nil) (.node (o274 P) .nil .nil))) (.node (o90 P) (.node (o124 P) (.node (o190 P) (.node (o322 P) .nil .nil) .nil) (.node (o256 P) (.node (o388 P) .nil .nil) .nil)) (.node (o156 P) (.node (o224 P) (.node (o356 P) .nil .nil) .nil) (.node (o290 P) .nil .nil)))) (.node (o63 P) (.node (o82 P) (.node (o116 P) (.node (o182 P) (.node (o314 P) .nil .nil) .nil) (.node (o248 P) (.node (o380 P) .nil .nil) .nil)) (.node (o148 P) (.node (o216 P) (.node (o348 P) .nil .nil) .nil) (.node (o282 P) .nil .nil))) (.node (o98 P) (.node (o132 P) (.node (o198 P) (.node (o330 P) .nil .nil) .nil) (.node (o264 P) .nil .nil)) (.node (o166 P) (.node (o232 P) (.node (o364 P) .nil .nil) .nil) (.node (o298 P) .nil .nil))))) (.node (o46 P) (.node (o59 P) (.node (o81 P) (.node (o112 P) (.node (o178 P) (.node (o310 P) .nil .nil) .nil) (.node (o244 P) (.node (o376 P) .nil .nil) .nil)) (.node (o144 P) (.node (o210 P) (.node (o344 P) .nil .nil) .nil) (.node (o278 P) .nil .nil))) (.node (o94 P) (.node (o128 P) (.node (o194 P) (.node (o326 P) .nil .nil) .nil) (.node (o260 P) .nil .nil)) (.node (o162 P) (.node (o228 P) (.node (o360 P) .nil .nil) .nil) (.node (o294 P) .nil .nil)))) (.node (o67 P) (.node (o86 P) (.node (o120 P) (.node (o186 P) (.node (o318 P) .nil .nil) .nil) (.node (o252 P) (.node (o384 P) .nil .nil) .nil)) (.node (o152 P) (.node (o220 P) (.node (o352 P) .nil .nil) .nil) (.node (o286 P) .nil .nil))) (.node (o104 P) (.node (o136 P) (.node (o202 P) (.node (o334 P) .nil .nil) .nil) (.node (o270 P) .nil .nil)) (.node (o170 P) (.node (o236 P) (.node (o368 P) .nil .nil) .nil) (.node (o302 P) .nil .nil)))))))
noncomputable def tree461 (P : Params) : BT := .node (boot_o_0 P) (.node (boot_o_1 P) (.node (o391 P) (.node (boot_o_7 P) (.node (o52 P) (.node (o68 P) (.node (o105 P) (.node (o171 P) (.node (o303 P) .nil .nil) (.node (o435 P) .nil .nil)) (.node (o237 P) (.node (o369 P) .nil .nil) .nil)) (.node (o137 P) (.node (o203 P) (.node (o335 P) .nil .nil) .nil) (.node (o271 P) (.node (o403 P) .nil .nil) .nil))) (.node (o87 P) (.node (o121 P) (.node (o187 P) (.node (o319 P) .nil .nil) (.node (o451 P) .nil .nil)) (.node (o253 P) (.node (o385 P) .nil .nil) .nil)) (.node (o153 P) (.node (o221 P) (.node (o353 P) .nil .nil) .nil) (.node (o287 P) (.node (o419 P) .nil .nil) .nil)))) (.node (o60 P) (.node (o76 P) (.node (o113 P) (.node (o179 P) (.node (o311 P) .nil .nil) (.node (o443 P) .nil .nil)) (.node (o245 P) (.node (o377 P) .nil .nil) .nil)) (.node (o145 P) (.node (o211 P) (.node (o345 P) .nil .nil) .nil) (.node (o279 P) (.node (o411 P) .nil .nil) .nil))) (.node (o95 P) (.node (o129 P) (.node (o195 P) (.node (o327 P) .nil .nil) (.node (o459 P) .nil .nil)) (.node (o261 P) (.node (o395 P) .nil .nil) .nil)) (.node (o163 P) (.node (o229 P) (.node (o361 P) .nil .nil) .nil) (.node (o295 P) (.node (o427 P) .nil .nil) .nil))))) (.node (o43 P) (.node (o56 P) (.node (o72 P) (.node (o109 P) (.node (o175 P) (.node (o307 P) .nil .nil) (.node (o439 P) .nil .nil)) (.node (o241 P) (.node (o373 P) .nil .nil) .nil)) (.node (o141 P) (.node (o207 P) (.node (o339 P) .nil .nil) .nil) (.node (o275 P) (.node (o407 P) .nil .nil) .nil))) (.node (o91 P) (.node (o125 P) (.node (o191 P) (.node (o323 P) .nil .nil) (.node (o455 P) .nil .nil)) (.node (o257 P) (.node (o389 P) .nil .nil) .nil)) (.node (o157 P) (.node (o225 P) (.node (o357 P) .nil .nil) .nil) (.node (o291 P) (.node (o423 P) .nil .nil) .nil)))) (.node (o64 P) (.node (o83 P) (.node (o117 P) (.node (o183 P) (.node (o315 P) .nil .nil) (.node (o447 P) .nil .nil)) (.node (o249 P) (.node (o381 P) .nil .nil) .nil)) (.node (o149 P) (.node (o217 P) (.node (o349 P) .nil .nil) .nil) (.node (o283 P) (.node (o415 P) .nil .nil) .nil))) (.node (o99 P) (.node (o133 P) (.node (o199 P) (.node (o331 P) .nil .nil) .nil) (.node (o265 P) (.node (o399 P) .nil .nil) .nil)) (.node (o167 P) (.node (o233 P) (.node (o365 P) .nil .nil) .nil) (.node (o299 P) (.node (o431 P) .nil .nil) .nil)))))) (.node (boot_o_5 P) (.node (boot_o_9 P) (.node (o54 P) (.node (o70 P) (.node (o107 P) (.node (o173 P) (.node (o305 P) .nil .nil) (.node (o437 P) .nil .nil)) (.node (o239 P) (.node (o371 P) .nil .nil) .nil)) (.node (o139 P) (.node (o205 P) (.node (o337 P) .nil .nil) .nil) (.node (o273 P) (.node (o405 P) .nil .nil) .nil))) (.node (o89 P) (.node (o123 P) (.node (o189 P) (.node (o321 P) .nil .nil) (.node (o453 P) .nil .nil)) (.node (o255 P) (.node (o387 P) .nil .nil) .nil)) (.node (o155 P) (.node (o223 P) (.node (o355 P) .nil .nil) .nil) (.node (o289 P) (.node (o421 P) .nil .nil) .nil)))) (.node (o62 P) (.node (o78 P) (.node (o115 P) (.node (o181 P) (.node (o313 P) .nil .nil) (.node (o445 P) .nil .nil)) (.node (o247 P) (.node (o379 P) .nil .nil) .nil)) (.node (o147 P) (.node (o213 P) (.node (o347 P) .nil .nil) .nil) (.node (o281 P) (.node (o413 P) .nil .nil) .nil))) (.node (o97 P) (.node (o131 P) (.node (o197 P) (.node (o329 P) .nil .nil) (.node (o461 P) .nil .nil)) (.node (o263 P) (.node (o397 P) .nil .nil) .nil)) (.node (o165 P) (.node (o231 P) (.node (o363 P) .nil .nil) .nil) (.node (o297 P) (.node (o429 P) .nil .nil) .nil))))) (.node (o45 P) (.node (o58 P) (.node (o74 P) (.node (o111 P) (.node (o177 P) (.node (o309 P) .nil .nil) (.node (o441 P) .nil .nil)) (.node (o243 P) (.node (o375 P) .nil .nil) .nil)) (.node (o143 P) (.node (o209 P) (.node (o343 P) .nil .nil) .nil) (.node (o277 P) (.node (o409 P) .nil .nil) .nil))) (.node (o93 P) (.node (o127 P) (.node (o193 P) (.node (o325 P) .nil .nil) (.node (o457 P) .nil .nil)) (.node (o259 P) (.node (o393 P) .nil .nil) .nil)) (.node (o159 P) (.node (o227 P) (.node (o359 P) .nil .nil) .nil) (.node (o293 P) (.node (o425 P) .nil .nil) .nil)))) (.node (o66 P) (.node (o85 P) (.node (o119 P) (.node (o185 P) (.node (o317 P) .nil .nil) (.node (o449 P) .nil .nil)) (.node (o251 P) (.node (o383 P) .nil .nil) .nil)) (.node (o151 P) (.node (o219 P) (.node (o351 P) .nil .nil) .nil) (.node (o285 P) (.node (o417 P) .nil .nil) .nil))) (.node (o101 P) (.node (o135 P) (.node (o201 P) (.node (o333 P) .nil .nil) .nil) (.node (o267 P) (.node (o401 P) .nil .nil) .nil)) (.node (o169 P) (.node (o235 P) (.node (o367 P) .nil .nil) .nil) (.node (o301 P) (.node (o433 P) .nil .nil) .nil))))))) (.node (o49 P) (.node (boot_o_4 P) (.node (boot_o_8 P) (.node (o53 P) (.node (o69 P) (.node (o106 P) (.node (o172 P) (.node (o304 P) .nil .nil) (.node (o436 P) .nil .nil)) (.node (o238 P) (.node (o370 P) .nil .nil) .nil)) (.node (o138 P) (.node (o204 P) (.node (o336 P) .nil .nil) .nil) (.node (o272 P) (.node (o404 P) .nil .nil) .nil))) (.node (o88 P) (.node (o122 P) (.node (o188 P) (.node (o320 P) .nil .nil) (.node (o452 P) .nil .nil)) (.node (o254 P) (.node (o386 P) .nil .nil) .nil)) (.node (o154 P) (.node (o222 P) (.node (o354 P) .nil .nil) .nil) (.node (o288 P) (.node (o420 P) .nil .nil) .nil)))) (.node (o61 P) (.node (o77 P) (.node (o114 P) (.node (o180 P) (.node (o312 P) .nil .nil) (.node (o444 P) .nil .nil)) (.node (o246 P) (.node (o378 P) .nil .nil) .nil)) (.node (o146 P) (.node (o212 P) (.node (o346 P) .nil .nil) .nil) (.node (o280 P) (.node (o412 P) .nil .nil) .nil))) (.node (o96 P) (.node (o130 P) (.node (o196 P) (.node (o328 P) .nil .nil) (.node (o460 P) .nil .nil)) (.node (o262 P) (.node (o396 P) .nil .nil) .nil)) (.node (o164 P) (.node (o230 P) (.node (o362 P) .nil .nil) .nil) (.node (o296 P) (.node (o428 P) .nil .nil) .nil))))) (.node (o392 P) (.node (o57 P) (.node (o73 P) (.node (o110 P) (.node (o176 P) (.node (o308 P) .nil .nil) (.node (o440 P) .nil .nil)) (.node (o242 P) (.node (o374 P) .nil .nil) .nil)) (.node (o142 P) (.node (o208 P) (.node (o342 P) .nil .nil) .nil) (.node (o276 P) (.node (o408 P) .nil .nil) .nil))) (.node (o92 P) (.node (o126 P) (.node (o192 P) (.node (o324 P) .nil .nil) (.node (o456 P) .nil .nil)) (.node (o258 P) (.node (o390 P) .nil .nil) .nil)) (.node (o158 P) (.node (o226 P) (.node (o358 P) .nil .nil) .nil) (.node (o292 P) (.node (o424 P) .nil .nil) .nil)))) (.node (o65 P) (.node (o84 P) (.node (o118 P) (.node (o184 P) (.node (o316 P) .nil .nil) (.node (o448 P) .nil .nil)) (.node (o250 P) (.node (o382 P) .nil .nil) .nil)) (.node (o150 P) (.node (o218 P) (.node (o350 P) .nil .nil) .nil) (.node (o284 P) (.node (o416 P) .nil .nil) .nil))) (.node (o100 P) (.node (o134 P) (.node (o200 P) (.node (o332 P) .nil .nil) .nil) (.node (o266 P) (.node (o400 P) .nil .nil) .nil)) (.node (o168 P) (.node (o234 P) (.node (o366 P) .nil .nil) .nil) (.node (o300 P) (.node (o432 P) .nil .nil) .nil)))))) (.node (boot_o_6 P) (.node (boot_o_10 P) (.node (o55 P) (.node (o71 P) (.node (o108 P) (.node (o174 P) (.node (o306 P) .nil .nil) (.node (o438 P) .nil .nil)) (.node (o240 P) (.node (o372 P) .nil .nil) .nil)) (.node (o140 P) (.node (o206 P) (.node (o338 P) .nil .nil) .nil) (.node (o274 P) (.node (o406 P) .nil .nil) .nil))) (.node (o90 P) (.node (o124 P) (.node (o190 P) (.node (o322 P) .nil .nil) (.node (o454 P) .nil .nil)) (.node (o256 P) (.node (o388 P) .nil .nil) .nil)) (.node (o156 P) (.node (o224 P) (.node (o356 P) .nil .nil) .nil) (.node (o290 P) (.node (o422 P) .nil .nil) .nil)))) (.node (o63 P) (.node (o82 P) (.node (o116 P) (.node (o182 P) (.node (o314 P) .nil .nil) (.node (o446 P) .nil .nil)) (.node (o248 P) (.node (o380 P) .nil .nil) .nil)) (.node (o148 P) (.node (o216 P) (.node (o348 P) .nil .nil) .nil) (.node (o282 P) (.node (o414 P) .nil .nil) .nil))) (.node (o98 P) (.node (o132 P) (.node (o198 P) (.node (o330 P) .nil .nil) .nil) (.node (o264 P) (.node (o398 P) .nil .nil) .nil)) (.node (o166 P) (.node (o232 P) (.node (o364 P) .nil .nil) .nil) (.node (o298 P) (.node (o430 P) .nil .nil) .nil))))) (.node (o46 P) (.node (o59 P) (.node (o81 P) (.node (o112 P) (.node (o178 P) (.node (o310 P) .nil .nil) (.node (o442 P) .nil .nil)) (.node (o244 P) (.node (o376 P) .nil .nil) .nil)) (.node (o144 P) (.node (o210 P) (.node (o344 P) .nil .nil) .nil) (.node (o278 P) (.node (o410 P) .nil .nil) .nil))) (.node (o94 P) (.node (o128 P) (.node (o194 P) (.node (o326 P) .nil .nil) (.node (o458 P) .nil .nil)) (.node (o260 P) (.node (o394 P) .nil .nil) .nil)) (.node (o162 P) (.node (o228 P) (.node (o360 P) .nil .nil) .nil) (.node (o294 P) (.node (o426 P) .nil .nil) .nil)))) (.node (o67 P) (.node (o86 P) (.node (o120 P) (.node (o186 P) (.node (o318 P) .nil .nil) (.node (o450 P) .nil .nil)) (.node (o252 P) (.node (o384 P) .nil .nil) .nil)) (.node (o152 P) (.node (o220 P) (.node (o352 P) .nil .nil) .nil) (.node (o286 P) (.node (o418 P) .nil .nil) .nil))) (.node (o104 P) (.node (o136 P) (.node (o202 P) (.node (o334 P) .nil .nil) .nil) (.node (o270 P) (.node (o402 P) .nil .nil) .nil)) (.node (o170 P) (.node (o236 P) (.node (o368 P) .nil .nil) .nil) (.node (o302 P) (.node (o434 P) .nil .nil) .nil)))))))
noncomputable def heap46 (P : Params) : Heap := ⟨⟨[boot_o_0 P, boot_o_1 P, boot_o_2 P, boot_o_3 P, boot_o_4 P, boot_o_5 P, boot_o_6 P, boot_o_7 P, boot_o_8 P, boot_o_9 P, boot_o_10 P, o43 P, o44 P, o45 P, o46 P]⟩, {}⟩
noncomputable def heap462 (P : Params) : Heap := ⟨⟨[boot_o_0 P, boot_o_1 P, o49 P, o391 P, boot_o_4 P, boot_o_5 P, boot_o_6 P, boot_o_7 P, boot_o_8 P, boot_o_9 P, boot_o_10 P, o43 P, o392 P, o45 P, o46 P, o52 P, o53 P, o54 P, o55 P, o56 P, o57 P, o58 P, o59 P, o60 P, o61 P, o62 P, o63 P, o64 P, o65 P, o66 P, o67 P, o68 P, o69 P, o70 P, o71 P, o72 P, o73 P, o74 P, o81 P, o76 P, o77 P, o78 P, o82 P, o83 P, o84 P, o85 P, o86 P, o87 P, o88 P, o89 P, o90 P, o91 P, o92 P, o93 P, o94 P, o95 P, o96 P, o97 P, o98 P, o99 P, o100 P, o101 P, o104 P, o105 P, o106 P, o107 P, o108 P, o109 P, o110 P, o111 P, o112 P, o113 P, o114 P, o115 P, o116 P, o117 P, o118 P, o119 P, o120 P, o121 P, o122 P, o123 P, o124 P, o125 P, o126 P, o127 P, o128 P, o129 P, o130 P, o131 P, o132 P, o133 P, o134 P, o135 P, o136 P, o137 P, o138 P, o139 P, o140 P, o141 P, o142 P, o143 P, o144 P, o145 P, o146 P, o147 P, o148 P, o149 P, o150 P, o151 P, o152 P, o153 P, o154 P, o155 P, o156 P, o157 P, o158 P, o159 P, o162 P, o163 P, o164 P, o165 P, o166 P, o167 P, o168 P, o169 P, o170 P, o171 P, o172 P, o173 P, o174 P, o175 P, o176 P, o177 P, o178 P, o179 P, o180 P, o181 P, o182 P, o183 P, o184 P, o185 P, o186 P, o187 P, o188 P, o189 P, o190 P, o191 P, o192 P, o193 P, o194 P, o195 P, o196 P, o197 P, o198 P, o199 P, o200 P, o201 P, o202 P, o203 P, o204 P, o205 P, o206 P, o207 P, o208 P, o209 P, o210 P, o211 P, o212 P, o213 P, o216 P, o217 P, o218 P, o219 P, o220 P, o221 P, o222 P, o223 P, o224 P, o225 P, o226 P, o227 P, o228 P, o229 P, o230 P, o231 P, o232 P, o233 P, o234 P, o235 P, o236 P, o237 P, o238 P, o239 P, o240 P, o241 P, o242 P, o243 P, o244 P, o245 P, o246 P, o247 P, o248 P, o249 P, o250 P, o251 P, o252 P, o253 P, o254 P, o255 P, o256 P, o257 P, o258 P, o259 P, o260 P, o261 P, o262 P, o263 P, o264 P, o265 P, o266 P, o267 P, o270 P, o271 P, o272 P, o273 P, o274 P, o275 P, o276 P, o277 P, o278 P, o279 P, o280 P, o281 P, o282 P, o283 P, o284 P, o285 P, o286 P, o287 P, o288 P, o289 P, o290 P, o291 P, o292 P, o293 P, o294 P, o295 P, o296 P, o297 P, o298 P, o299 P, o300 P, o301 P, o302 P, o303 P, o304 P, o305 P, o306 P, o307 P, o308 P, o309 P, o310 P, o311 P, o312 P, o313 P, o314 P, o315 P, o316 P, o317 P, o318 P, o319 P, o320 P, o321 P, o322 P, o323 P, o324 P, o325 P, o326 P, o327 P, o328 P, o329 P, o330 P, o331 P, o332 P, o333 P, o334 P, o335 P, o336 P, o337 P, o338 P, o339 P, o342 P, o343 P, o344 P, o345 P, o346 P, o347 P, o348 P, o349 P, o350 P, o351 P, o352 P, o353 P, o354 P, o355 P, o356 P, o357 P, o358 P, o359 P, o360 P, o361 P, o362 P, o363 P, o364 P, o365 P, o366 P, o367 P, o368 P, o369 P, o370 P, o371 P, o372 P, o373 P, o374 P, o375 P, o376 P, o377 P, o378 P, o379 P, o380 P, o381 P, o382 P, o383 P, o384 P, o385 P, o386 P, o387 P, o388 P, o389 P, o390 P, o393 P, o394 P, o395 P, o396 P, o397 P, o398 P, o399 P, o400 P, o401 P, o402 P, o403 P, o404 P, o405 P, o406 P, o407 P, o408 P, o409 P, o410 P, o411 P, o412 P, o413 P, o414 P, o415 P, o416 P, o417 P, o418 P, o419 P, o420 P, o421 P, o422 P, o423 P, o424 P, o425 P, o426 P, o427 P, o428 P, o429 P, o430 P, o431 P, o432 P, o433 P, o434 P, o435 P, o436 P, o437 P, o438 P, o439 P, o440 P, o441 P, o442 P, o443 P, o444 P, o445 P, o446 P, o447 P, o448 P, o449 P, o450 P, o451 P, o452 P, o453 P, o454 P, o455 P, o456 P, o457 P, o458 P, o459 P, o460 P, o461 P]⟩, {}⟩
noncomputable def env : Env := ⟨Module.scope (Program.main Pg), mainNs, mainNs, [], Str.empty, none, .ref 13, some 14, 0⟩
noncomputable abbrev cE : Code := .body (behindTheImports Pg) env
noncomputable abbrev B0 : List PySem.Frame := [topFrame ⟨0, 0, 0, 0⟩]
noncomputable abbrev S (t : BT) (n k : Nat) (os : OsState) : SharedT := ⟨t, n, {}, ⟨[]⟩, {}, k, os⟩
noncomputable abbrev F (w : World) (os : OsState) : Shared := ⟨heap462 w.params, ⟨[]⟩, {}, 742, os⟩
noncomputable abbrev sts (a n : Nat) : List Stmt := ((behindTheImports Pg).drop a).take n
noncomputable def view : Program := { Pg with main := { Pg.main with body := [nth 0 Pg.main.body, nth 2 Pg.main.body, nth 3 Pg.main.body, nth 5 Pg.main.body, nth 6 Pg.main.body, nth 7 Pg.main.body, nth 9 Pg.main.body, nth 10 Pg.main.body, nth 12 Pg.main.body, nth 13 Pg.main.body, nth 15 Pg.main.body, nth 17 Pg.main.body, nth 18 Pg.main.body, nth 19 Pg.main.body, nth 20 Pg.main.body, nth 21 Pg.main.body, nth 22 Pg.main.body, nth 23 Pg.main.body, nth 24 Pg.main.body, nth 25 Pg.main.body, nth 26 Pg.main.body, nth 27 Pg.main.body, nth 28 Pg.main.body] } }
theorem pre (w : World) : (fun os => topGo treeTable Pg w 11 (some (.ref 6)) 12 ⟨boot_heap w.params, ⟨[]⟩, boot_drawn, boot_toks, os⟩ (topStub Pg)) =
    fun os => some ((⟨heap46 w.params, ⟨[]⟩, {}, 187, os⟩ : Shared), (⟨denote treeTable cE, cE, ⟨0, 0, 0, 0⟩, B0⟩ : Thread)) := by
  rw [Fast.te15667345088766844465, Fast.te14364793385576792824, Fast.te11892475500146522536]; kernel_rfl
theorem block (w : World) : (fun os => segRun treeTable Pg w 11 (some (.ref 6)) 1 1 ⟨heap46 w.params, ⟨[]⟩, {}, 187, os⟩ (blockOf (behindTheImports Pg) env cE ⟨0, 0, 0, 0⟩ B0)) =
    fun os => some (Flow.next, (S (tree47 w.params) 15 187 os).abs, cE, ⟨0, 0, 0, 0⟩) := by
  rw [Fast.te14374325043358763698, Fast.te14364793385576792824]; kernel_rfl
theorem pc0 (w : World) : (fun os => segRunT treeTable Pg w 11 (some (.ref 6)) 1 267 (S (tree47 w.params) 15 187 os) (piecesOf (sts 0 3) env cE ⟨0, 0, 0, 0⟩ B0)) =
    fun os => some (Flow.next, S (tree78 w.params) 42 225 os, cE, ⟨5, 0, 9, 30⟩) := by
  rw [Fast.te10110043849684766642, Fast.te14364793385576792824]; kernel_rfl
theorem pc1 (w : World) : (fun os => segRunT treeTable Pg w 11 (some (.ref 6)) 1 258 (S (tree78 w.params) 42 225 os) (piecesOf (sts 3 2) env cE ⟨5, 0, 9, 30⟩ B0)) =
    fun os => some (Flow.next, S (tree101 w.params) 62 254 os, cE, ⟨15, 0, 15, 8⟩) := by
  rw [Fast.te10110043849684766642, Fast.te14364793385576792824]; kernel_rfl
theorem pc2 (w : World) : (fun os => segRunT treeTable Pg w 11 (some (.ref 6)) 1 386 (S (tree101 w.params) 62 254 os) (piecesOf (sts 5 2) env cE ⟨15, 0, 15, 8⟩ B0)) =
    fun os => some (Flow.next, S (tree159 w.params) 118 328 os, cE, ⟨45, 0, 46, 81⟩) := by
  rw [Fast.te10110043849684766642, Fast.te14364793385576792824]; kernel_rfl
theorem pc3 (w : World) : (fun os => segRunT treeTable Pg w 11 (some (.ref 6)) 1 388 (S (tree159 w.params) 118 328 os) (piecesOf (sts 7 2) env cE ⟨45, 0, 46, 81⟩ B0)) =
    fun os => some (Flow.next, S (tree213 w.params) 170 399 os, cE, ⟨88, 0, 88, 8⟩) := by
  rw [Fast.te10110043849684766642, Fast.te14364793385576792824]; kernel_rfl
theorem pc4 (w : World) : (fun os => segRunT treeTable Pg w 11 (some (.ref 6)) 1 400 (S (tree213 w.params) 170 399 os) (piecesOf (sts 9 4) env cE ⟨88, 0, 88, 8⟩ B0)) =
    fun os => some (Flow.next, S (tree267 w.params) 222 477 os, cE, ⟨136, 0, 136, 6⟩) := by
  rw [Fast.te10110043849684766642, Fast.te14364793385576792824]; kernel_rfl
theorem pc5 (w : World) : (fun os => segRunT treeTable Pg w 11 (some (.ref 6)) 1 456 (S (tree267 w.params) 222 477 os) (piecesOf (sts 13 1) env cE ⟨136, 0, 136, 6⟩ B0)) =
    fun os => some (Flow.next, S (tree339 w.params) 292 571 os, cE, ⟨137, 0, 181, 50⟩) := by
  rw [Fast.te10110043849684766642, Fast.te14364793385576792824]; kernel_rfl
theorem pc6 (w : World) : (fun os => segRunT treeTable Pg w 11 (some (.ref 6)) 1 371 (S (tree339 w.params) 292 571 os) (piecesOf (sts 14 4) env cE ⟨137, 0, 181, 50⟩ B0)) =
    fun os => some (Flow.next, S (tree390 w.params) 341 640 os, cE, ⟨201, 0, 203, 94⟩) := by
  rw [Fast.te10110043849684766642, Fast.te14364793385576792824]; kernel_rfl
theorem pc7 (w : World) : (fun os => segRunT treeTable Pg w 11 (some (.ref 6)) 1 337 (S (tree390 w.params) 341 640 os) (piecesOf (sts 18 11) env cE ⟨201, 0, 203, 94⟩ B0)) =
    fun os => some (Flow.next, S (tree461 w.params) 410 742 os, cE, ⟨290, 0, 297, 75⟩) := by
  rw [Fast.te10110043849684766642, Fast.te14364793385576792824]; kernel_rfl
theorem fin (w : World) : (fun os => topRun treeTable Pg w 11 (some (.ref 6)) 2 (S (tree461 w.params) 410 742 os).abs ⟨doneF Flow.next, cE, ⟨290, 0, 297, 75⟩, B0⟩) = fun os => some (F w os) := by
  rw [Fast.te14082659384304107361, Fast.te14364793385576792824]; kernel_rfl
theorem body_eq : behindTheImports Pg = sts 0 3 ++ (sts 3 2 ++ (sts 5 2 ++ (sts 7 2 ++ (sts 9 4 ++ (sts 13 1 ++ (sts 14 4 ++ (sts 18 11 ++ []))))))) := by kernel_rfl
noncomputable abbrev M : Nat := Nat.add 12 (Nat.add 1 (Nat.add 267 (Nat.add 258 (Nat.add 386 (Nat.add 388 (Nat.add 400 (Nat.add 456 (Nat.add 371 (Nat.add 337 2)))))))))
theorem run (w : World) (os : OsState) : topRun treeTable Pg w 11 (some (.ref 6)) M ⟨boot_heap w.params, ⟨[]⟩, boot_drawn, boot_toks, os⟩ (topStub Pg) = some (F w os) := by
  refine go_top (congrFun (pre w) os) (piece_block (congrFun (block w) os) ?_)
  have h := piece_app (env := env) (segRun_of (congrFun (pc0 w) os)) (piece_app (env := env) (segRun_of (congrFun (pc1 w) os)) (piece_app (env := env) (segRun_of (congrFun (pc2 w) os)) (piece_app (env := env) (segRun_of (congrFun (pc3 w) os)) (piece_app (env := env) (segRun_of (congrFun (pc4 w) os)) (piece_app (env := env) (segRun_of (congrFun (pc5 w) os)) (piece_app (env := env) (segRun_of (congrFun (pc6 w) os)) (piece_app (env := env) (rest := []) (segRun_of (congrFun (pc7 w) os)) ((congrFun (fin w) os)))))))))
  rw [← body_eq] at h
  exact h
theorem la (w : World) : (fun os => staticsOk (importedModules Pg.main.body) (boot_heap w.params) (heap462 w.params) && namesBound Pg (heap462 w.params) && gensDone (F w os) && laidKept (boot_heap w.params) (heap462 w.params)) = fun (_ : OsState) => true := by
  rw [Fast.te5923862056798008813]; kernel_rfl
theorem lb (w : World) : (fun os => seen ((recsOf view).map (·.name)) (ownsOf view) [] { F w os with gens := #[] }) = fun (_ : OsState) => expectedOf view := by
  rw [Fast.te5160383126252970620, Fast.te3399658132070893891, Fast.te5991557255702980513]; kernel_rfl
theorem lc (w : World) : (fun os => (F w os).heap.bltView) = fun (_ : OsState) => bltViewBooted := by
  kernel_rfl
theorem ld (w : World) : (fun os => (F w os).heap.keysOk (looseW view [Str.ofString "SettingError"]) ((recsOf view).map (·.name)) ((litsOf view).map (·.1)) ((clssOf view (looseW view [Str.ofString "SettingError"])).map (·.name)) && (F w os).heap.accountedOkI (importedModules Pg.main.body) && (F w os).heap.isNs mainGlobals && (F w os).heap.isNs builtinsNs && tablesOk view (F w os).heap && (fun s => xlAt view [] s && recOk (RowW.records (OpenRow.toRowW PySem.Challenge.rw_pf0391_01.row)) s) (F w os) && (if (true : Bool) = true then (F w os).gens.size == 0 else !leftWithCleanup (F w os).gens)) = fun (_ : OsState) => true := by
  rw [Fast.te10880121769531294198, Fast.te821141287760084731, Fast.te3399658132070893891, Fast.te7409074990110511671, Fast.te13664370479719496447, Fast.te14722251495701143533, Fast.te5923862056798008813, Fast.te10994771534591457954]; kernel_rfl
theorem le (w : World) : (fun os => tabsOk view (F w os)) = fun (_ : OsState) => true := by
  rw [Fast.te479339242167458305]; kernel_rfl
theorem lf (w : World) : (fun os => pinSeenD view (drecsOf view) (F w os)) = fun (_ : OsState) => pinGoodD (drecsOf view) := by
  rw [Fast.te16090120013241838585, Fast.te3247288618530077131]; kernel_rfl
theorem lg (w : World) : (fun os => plainSeenE view (looseW view [Str.ofString "SettingError"]) (F w os)) = fun (_ : OsState) => plainGoodE view (looseW view [Str.ofString "SettingError"]) := by
  rw [Fast.te2386780881361962483]; kernel_rfl
theorem lh (w : World) : (fun os => plainSeenD view [Str.ofString "SettingError"] (F w os)) = fun (_ : OsState) => plainGoodD view [Str.ofString "SettingError"] := by
  rw [Fast.te11698064438423848299]; kernel_rfl
theorem li (w : World) : (fun os => wideSeen view (F w os)) = fun (_ : OsState) => wideGood view := by
  rw [Fast.te7317090234206586261]; kernel_rfl
theorem lj (w : World) : (fun os => clsSeenW view [Str.ofString "SettingError"] (F w os)) = fun (_ : OsState) => clsGoodW view [Str.ofString "SettingError"] := by
  rw [Fast.te7369524293546568484]; kernel_rfl
theorem opens (w : World) (os : OsState) : openSeen view [Str.ofString "SettingError"] (importedModules Pg.main.body) (fun s => xlAt view [] s && recOk (RowW.records (OpenRow.toRowW PySem.Challenge.rw_pf0391_01.row)) s) true (F w os) = openGood view [Str.ofString "SettingError"] := by
  unfold openSeen openGood
  exact looks_pair (congrFun (lb w) os) (looks_pair (congrFun (lc w) os) (looks_pair (congrFun (ld w) os) (looks_pair (congrFun (le w) os) (looks_pair (congrFun (lf w) os) (looks_pair (congrFun (lg w) os) (looks_pair (congrFun (lh w) os) (looks_pair (congrFun (li w) os) (congrFun (lj w) os))))))))
theorem size (w : World) : ((boot_heap w.params).isNs mainGlobals && (Array.mk ([] : List GenState)).size == 0, (boot_heap w.params).objs.size, (boot_heap w.params).nsMap mainGlobals (Str.ofString "__annotations__")) = (true, 11, some (Value.ref 6)) := by
  rw [Fast.te8920871248978507458]; kernel_rfl
theorem left {α : Type} (Yf : Shared → α) (Ya : World → α) (hY : ∀ w, (fun os => Yf (F w os)) = fun _ => Ya w) : LeftO Pg view [Str.ofString "SettingError"] (fun s => xlAt view [] s && recOk (RowW.records (OpenRow.toRowW PySem.Challenge.rw_pf0391_01.row)) s) Yf Ya 5836 true := by
  refine LeftO.of_pieces (H₀ := boot_heap) (H₁ := heap462) (gs₀ := ⟨[]⟩) (gs₁ := ⟨[]⟩) (d₀ := boot_drawn) (d₁ := {}) (k₀ := boot_toks) (k₁ := 742) (m₀ := 11) (ann := some (.ref 6)) (M := M) (boot_open (by kernel_rfl) (by decide) fun s => by kernel_rfl) size run (by decide +kernel) fun w => ?_
  funext os
  exact looks_pair (congrFun (la w) os) (looks_pair (opens w os) (congrFun (hY w) os))
end Top
theorem Top.said : PySem.Challenge.rw_pf0391_01.wellSaid = true := by
  unfold OpenLaw.wellSaid
  repeat' (with_reducible refine look_both ?_ ?_)
  (focus (unfold OpenRow.wellSaid OpenRow.partSaid looksOpen; repeat' (with_reducible refine look_both ?_ ?_)))
  all_goals decide +kernel
theorem Top.oh (H : Hook) {d : DefRec} {kwd : List (Str × Expr)} (hdef : defOf Top.view PySem.Challenge.rw_pf0391_01.row.name = some (d, kwd)) (hp : PySem.Challenge.rw_pf0391_01.row.prog.theDef PySem.Challenge.rw_pf0391_01.row.name = some (d.params, d.body, d.scope))
    (hk : kwWritten? d.params.kwonlyargs d.params.kw_defaults = some kwd) (said : PySem.Challenge.rw_pf0391_01.row.wellSaid = true) (hY : ∀ w, (fun os => Hook.obs H (Top.F w os)) = fun _ => Hook.val H w) (hw : PySem.Challenge.rw_pf0391_01.row.toRowW.promised)
    (hc : WalkO Top.view [Str.ofString "SettingError"] (XL Top.view []) (Hook.says H) PySem.Challenge.rw_pf0391_01.row.toRowW d kwd fun f vs => PySem.call f vs) : PySem.Challenge.rw_pf0391_01.row.Holds :=
  holds_open (q := Top.view) (loose := [Str.ofString "SettingError"]) (Xt := fun s => xlAt Top.view [] s && recOk (RowW.records (OpenRow.toRowW PySem.Challenge.rw_pf0391_01.row)) s) (XP := XL Top.view []) (Yf := Hook.obs H) (Ya := Hook.val H) (YP := Hook.says H) (N := 5836)
    (Top.left _ _ hY) (Hook.of H) (Hook.keeps H) (fun s e => xl_of s (Bool.and_eq_true_iff.mp e).1) XL.keeps hdef hp hk (fun s e => recFacts_of (Bool.and_eq_true_iff.mp e).2) (by rfl) said (by decide +kernel) ⟨rfl, rfl, rfl, rfl, rfl, by decide +kernel⟩ hw hc
section
local macro_rules | `(tactic| o_head $H:term) => `(tactic| refine Top.oh $H (by rfl) (by rfl) (by rfl) (by first | assumption | decide +kernel) (fun w => by kernel_rfl) ?hw ?hc)
local macro_rules | `(tactic| o_law) => `(tactic| refine holds_law Top.said fun said => ?_)
local macro_rules | `(tactic| k_qdec) => `(tactic| decide +kernel)
set_option maxRecDepth 100000 in
set_option maxHeartbeats 8000000 in
open_top hd for PySem.Challenge.rw_pf0391_01
end
end
set_option maxRecDepth 100000
set_option maxHeartbeats 4000000
set_option rowWalk.seconds 0
noncomputable def epA {α : Type u} (_i : Nonempty α) (G : α → Prop) : α := Classical.epsilon fun x => ¬ G x
def ExG {α : Type u} (x : α) (G : α → Prop) : Prop := G x
theorem exI {α : Type u} {x : α} {G : α → Prop} (h : G x) : ExG x G := h
theorem exE {α : Type u} {x : α} {G : α → Prop} (h : ExG x G) : G x := h
theorem all_epA {α : Type u} [i : Nonempty α] {G : α → Prop} (h : ExG (epA i G) G) : ∀ x, G x := by
  intro x
  refine Classical.byContradiction fun hn => ?_
  exact (Classical.epsilon_spec (p := fun x => ¬ G x) ⟨x, hn⟩) h
noncomputable def epE {α : Type u} (_i : Nonempty α) (p : α → Prop) : α := Classical.epsilon p
theorem epE_spec {α : Type u} [i : Nonempty α] {p : α → Prop} (h : ∃ x, p x) : ExG (epE i p) p := Classical.epsilon_spec h
theorem neWorld : Nonempty World := ⟨aWorld 0⟩
theorem neShared : Nonempty Shared := ⟨(start (plainProg [])).1⟩
theorem neAround : Nonempty Around := ⟨ktrTop 0 0 none default default 0 0 Value.none [] []⟩
theorem neItm : Nonempty Itm := ⟨.tok fun t => .int 0 t⟩
theorem neParams : Nonempty Params := ⟨(aWorld 0).params⟩
theorem cur {α : Type u} {β : Type v} {G : α → β → Prop} (h : ∀ p : α × β, G p.1 p.2) : ∀ a b, G a b := fun a b => h (a, b)
theorem nePr {α : Type u} {β : Type v} (a : Nonempty α) (b : Nonempty β) : Nonempty (α × β) := a.elim fun x => b.elim fun y => ⟨(x, y)⟩
theorem all_epI {α : Type u} {G : α → Prop} (i : Nonempty α) (h : ExG (epA i G) G) : ∀ x, G x := all_epA (i := i) h
theorem EpsOn.epsIsOn : True := trivial
theorem EpsNf.epsNoFold : True := trivial
theorem EpsNg.epsNoGroup : True := trivial
noncomputable def ep2 {α₁ α₂ : Type u} (_i : Nonempty (α₁ × α₂)) (G : α₁ → α₂ → Prop) : α₁ × α₂ := Classical.epsilon fun c => ¬ G c.1 c.2
def Ex2 {α₁ α₂ : Type u} (c : α₁ × α₂) (G : α₁ → α₂ → Prop) : Prop := G c.1 c.2
theorem ex2 {α₁ α₂ : Type u} {c : α₁ × α₂} {G : α₁ → α₂ → Prop} (h : G c.1 c.2) : Ex2 c G := h
theorem all_2 {α₁ α₂ : Type u} {G : α₁ → α₂ → Prop} (i : Nonempty (α₁ × α₂)) (hx : Ex2 (ep2 i G) G) : ∀ a b, G a b := by
  intro a b
  refine Classical.byContradiction fun hn => ?_
  exact (Classical.epsilon_spec (p := fun c : α₁ × α₂ => ¬ G c.1 c.2) ⟨(a, b), hn⟩) hx
noncomputable def ep3 {α₁ α₂ α₃ : Type u} (_i : Nonempty (α₁ × α₂ × α₃)) (G : α₁ → α₂ → α₃ → Prop) : α₁ × α₂ × α₃ := Classical.epsilon fun c => ¬ G c.1 c.2.1 c.2.2
def Ex3 {α₁ α₂ α₃ : Type u} (c : α₁ × α₂ × α₃) (G : α₁ → α₂ → α₃ → Prop) : Prop := G c.1 c.2.1 c.2.2
theorem ex3 {α₁ α₂ α₃ : Type u} {c : α₁ × α₂ × α₃} {G : α₁ → α₂ → α₃ → Prop} (h : G c.1 c.2.1 c.2.2) : Ex3 c G := h
theorem all_3 {α₁ α₂ α₃ : Type u} {G : α₁ → α₂ → α₃ → Prop} (i : Nonempty (α₁ × α₂ × α₃)) (hx : Ex3 (ep3 i G) G) : ∀ a b c, G a b c := by
  intro a b c
  refine Classical.byContradiction fun hn => ?_
  exact (Classical.epsilon_spec (p := fun c : α₁ × α₂ × α₃ => ¬ G c.1 c.2.1 c.2.2) ⟨(a, b, c), hn⟩) hx
noncomputable def ep4 {α₁ α₂ α₃ α₄ : Type u} (_i : Nonempty (α₁ × α₂ × α₃ × α₄)) (G : α₁ → α₂ → α₃ → α₄ → Prop) : α₁ × α₂ × α₃ × α₄ := Classical.epsilon fun c => ¬ G c.1 c.2.1 c.2.2.1 c.2.2.2
def Ex4 {α₁ α₂ α₃ α₄ : Type u} (c : α₁ × α₂ × α₃ × α₄) (G : α₁ → α₂ → α₃ → α₄ → Prop) : Prop := G c.1 c.2.1 c.2.2.1 c.2.2.2
theorem ex4 {α₁ α₂ α₃ α₄ : Type u} {c : α₁ × α₂ × α₃ × α₄} {G : α₁ → α₂ → α₃ → α₄ → Prop} (h : G c.1 c.2.1 c.2.2.1 c.2.2.2) : Ex4 c G := h
theorem all_4 {α₁ α₂ α₃ α₄ : Type u} {G : α₁ → α₂ → α₃ → α₄ → Prop} (i : Nonempty (α₁ × α₂ × α₃ × α₄)) (hx : Ex4 (ep4 i G) G) : ∀ a b c d, G a b c d := by
  intro a b c d
  refine Classical.byContradiction fun hn => ?_
  exact (Classical.epsilon_spec (p := fun c : α₁ × α₂ × α₃ × α₄ => ¬ G c.1 c.2.1 c.2.2.1 c.2.2.2) ⟨(a, b, c, d), hn⟩) hx
noncomputable def ep5 {α₁ α₂ α₃ α₄ α₅ : Type u} (_i : Nonempty (α₁ × α₂ × α₃ × α₄ × α₅)) (G : α₁ → α₂ → α₃ → α₄ → α₅ → Prop) : α₁ × α₂ × α₃ × α₄ × α₅ := Classical.epsilon fun c => ¬ G c.1 c.2.1 c.2.2.1 c.2.2.2.1 c.2.2.2.2
def Ex5 {α₁ α₂ α₃ α₄ α₅ : Type u} (c : α₁ × α₂ × α₃ × α₄ × α₅) (G : α₁ → α₂ → α₃ → α₄ → α₅ → Prop) : Prop := G c.1 c.2.1 c.2.2.1 c.2.2.2.1 c.2.2.2.2
theorem ex5 {α₁ α₂ α₃ α₄ α₅ : Type u} {c : α₁ × α₂ × α₃ × α₄ × α₅} {G : α₁ → α₂ → α₃ → α₄ → α₅ → Prop} (h : G c.1 c.2.1 c.2.2.1 c.2.2.2.1 c.2.2.2.2) : Ex5 c G := h
theorem all_5 {α₁ α₂ α₃ α₄ α₅ : Type u} {G : α₁ → α₂ → α₃ → α₄ → α₅ → Prop} (i : Nonempty (α₁ × α₂ × α₃ × α₄ × α₅)) (hx : Ex5 (ep5 i G) G) : ∀ a b c d e, G a b c d e := by
  intro a b c d e
  refine Classical.byContradiction fun hn => ?_
  exact (Classical.epsilon_spec (p := fun c : α₁ × α₂ × α₃ × α₄ × α₅ => ¬ G c.1 c.2.1 c.2.2.1 c.2.2.2.1 c.2.2.2.2) ⟨(a, b, c, d, e), hn⟩) hx
noncomputable def ep6 {α₁ α₂ α₃ α₄ α₅ α₆ : Type u} (_i : Nonempty (α₁ × α₂ × α₃ × α₄ × α₅ × α₆)) (G : α₁ → α₂ → α₃ → α₄ → α₅ → α₆ → Prop) : α₁ × α₂ × α₃ × α₄ × α₅ × α₆ := Classical.epsilon fun c => ¬ G c.1 c.2.1 c.2.2.1 c.2.2.2.1 c.2.2.2.2.1 c.2.2.2.2.2
def Ex6 {α₁ α₂ α₃ α₄ α₅ α₆ : Type u} (c : α₁ × α₂ × α₃ × α₄ × α₅ × α₆) (G : α₁ → α₂ → α₃ → α₄ → α₅ → α₆ → Prop) : Prop := G c.1 c.2.1 c.2.2.1 c.2.2.2.1 c.2.2.2.2.1 c.2.2.2.2.2
theorem ex6 {α₁ α₂ α₃ α₄ α₅ α₆ : Type u} {c : α₁ × α₂ × α₃ × α₄ × α₅ × α₆} {G : α₁ → α₂ → α₃ → α₄ → α₅ → α₆ → Prop} (h : G c.1 c.2.1 c.2.2.1 c.2.2.2.1 c.2.2.2.2.1 c.2.2.2.2.2) : Ex6 c G := h
theorem all_6 {α₁ α₂ α₃ α₄ α₅ α₆ : Type u} {G : α₁ → α₂ → α₃ → α₄ → α₅ → α₆ → Prop} (i : Nonempty (α₁ × α₂ × α₃ × α₄ × α₅ × α₆)) (hx : Ex6 (ep6 i G) G) : ∀ a b c d e f, G a b c d e f := by
  intro a b c d e f
  refine Classical.byContradiction fun hn => ?_
  exact (Classical.epsilon_spec (p := fun c : α₁ × α₂ × α₃ × α₄ × α₅ × α₆ => ¬ G c.1 c.2.1 c.2.2.1 c.2.2.2.1 c.2.2.2.2.1 c.2.2.2.2.2) ⟨(a, b, c, d, e, f), hn⟩) hx
noncomputable def ep7 {α₁ α₂ α₃ α₄ α₅ α₆ α₇ : Type u} (_i : Nonempty (α₁ × α₂ × α₃ × α₄ × α₅ × α₆ × α₇)) (G : α₁ → α₂ → α₃ → α₄ → α₅ → α₆ → α₇ → Prop) : α₁ × α₂ × α₃ × α₄ × α₅ × α₆ × α₇ := Classical.epsilon fun c => ¬ G c.1 c.2.1 c.2.2.1 c.2.2.2.1 c.2.2.2.2.1 c.2.2.2.2.2.1 c.2.2.2.2.2.2
def Ex7 {α₁ α₂ α₃ α₄ α₅ α₆ α₇ : Type u} (c : α₁ × α₂ × α₃ × α₄ × α₅ × α₆ × α₇) (G : α₁ → α₂ → α₃ → α₄ → α₅ → α₆ → α₇ → Prop) : Prop := G c.1 c.2.1 c.2.2.1 c.2.2.2.1 c.2.2.2.2.1 c.2.2.2.2.2.1 c.2.2.2.2.2.2
theorem ex7 {α₁ α₂ α₃ α₄ α₅ α₆ α₇ : Type u} {c : α₁ × α₂ × α₃ × α₄ × α₅ × α₆ × α₇} {G : α₁ → α₂ → α₃ → α₄ → α₅ → α₆ → α₇ → Prop} (h : G c.1 c.2.1 c.2.2.1 c.2.2.2.1 c.2.2.2.2.1 c.2.2.2.2.2.1 c.2.2.2.2.2.2) : Ex7 c G := h
theorem all_7 {α₁ α₂ α₃ α₄ α₅ α₆ α₇ : Type u} {G : α₁ → α₂ → α₃ → α₄ → α₅ → α₆ → α₇ → Prop} (i : Nonempty (α₁ × α₂ × α₃ × α₄ × α₅ × α₆ × α₇)) (hx : Ex7 (ep7 i G) G) : ∀ a b c d e f g, G a b c d e f g := by
  intro a b c d e f g
  refine Classical.byContradiction fun hn => ?_
  exact (Classical.epsilon_spec (p := fun c : α₁ × α₂ × α₃ × α₄ × α₅ × α₆ × α₇ => ¬ G c.1 c.2.1 c.2.2.1 c.2.2.2.1 c.2.2.2.2.1 c.2.2.2.2.2.1 c.2.2.2.2.2.2) ⟨(a, b, c, d, e, f, g), hn⟩) hx
noncomputable def ep8 {α₁ α₂ α₃ α₄ α₅ α₆ α₇ α₈ : Type u} (_i : Nonempty (α₁ × α₂ × α₃ × α₄ × α₅ × α₆ × α₇ × α₈)) (G : α₁ → α₂ → α₃ → α₄ → α₅ → α₆ → α₇ → α₈ → Prop) : α₁ × α₂ × α₃ × α₄ × α₅ × α₆ × α₇ × α₈ := Classical.epsilon fun c => ¬ G c.1 c.2.1 c.2.2.1 c.2.2.2.1 c.2.2.2.2.1 c.2.2.2.2.2.1 c.2.2.2.2.2.2.1 c.2.2.2.2.2.2.2
def Ex8 {α₁ α₂ α₃ α₄ α₅ α₆ α₇ α₈ : Type u} (c : α₁ × α₂ × α₃ × α₄ × α₅ × α₆ × α₇ × α₈) (G : α₁ → α₂ → α₃ → α₄ → α₅ → α₆ → α₇ → α₈ → Prop) : Prop := G c.1 c.2.1 c.2.2.1 c.2.2.2.1 c.2.2.2.2.1 c.2.2.2.2.2.1 c.2.2.2.2.2.2.1 c.2.2.2.2.2.2.2
theorem ex8 {α₁ α₂ α₃ α₄ α₅ α₆ α₇ α₈ : Type u} {c : α₁ × α₂ × α₃ × α₄ × α₅ × α₆ × α₇ × α₈} {G : α₁ → α₂ → α₃ → α₄ → α₅ → α₆ → α₇ → α₈ → Prop} (h : G c.1 c.2.1 c.2.2.1 c.2.2.2.1 c.2.2.2.2.1 c.2.2.2.2.2.1 c.2.2.2.2.2.2.1 c.2.2.2.2.2.2.2) : Ex8 c G := h
theorem all_8 {α₁ α₂ α₃ α₄ α₅ α₆ α₇ α₈ : Type u} {G : α₁ → α₂ → α₃ → α₄ → α₅ → α₆ → α₇ → α₈ → Prop} (i : Nonempty (α₁ × α₂ × α₃ × α₄ × α₅ × α₆ × α₇ × α₈)) (hx : Ex8 (ep8 i G) G) : ∀ a b c d e f g h, G a b c d e f g h := by
  intro a b c d e f g h
  refine Classical.byContradiction fun hn => ?_
  exact (Classical.epsilon_spec (p := fun c : α₁ × α₂ × α₃ × α₄ × α₅ × α₆ × α₇ × α₈ => ¬ G c.1 c.2.1 c.2.2.1 c.2.2.2.1 c.2.2.2.2.1 c.2.2.2.2.2.1 c.2.2.2.2.2.2.1 c.2.2.2.2.2.2.2) ⟨(a, b, c, d, e, f, g, h), hn⟩) hx
theorem sub_nil {α : Type u} {P : α → Prop} : ∀ p ∈ ([] : List α), P p := fun _ h => (List.not_mem_nil h).elim
theorem sub_cons {α : Type u} {P : α → Prop} {a : α} {l : List α} (h : P a) (t : ∀ p ∈ l, P p) : ∀ p ∈ a :: l, P p := List.forall_mem_cons.mpr ⟨h, t⟩
theorem sub_app {α : Type u} {P : α → Prop} {l k : List α} (h : ∀ p ∈ l, P p) (t : ∀ p ∈ k, P p) : ∀ p ∈ l ++ k, P p := fun p hp => (List.mem_append.mp hp).elim (h p) (t p)
theorem sub_tail {α : Type u} {l B : List α} {b : α} (h : ∀ p ∈ l, p ∈ B) : ∀ p ∈ l, p ∈ b :: B := fun p hp => .tail _ (h p hp)
theorem sub_left {α : Type u} {l B C : List α} (h : ∀ p ∈ l, p ∈ B) : ∀ p ∈ l, p ∈ B ++ C := fun p hp => List.mem_append_left _ (h p hp)
theorem sub_right {α : Type u} {l B C : List α} (h : ∀ p ∈ l, p ∈ C) : ∀ p ∈ l, p ∈ B ++ C := fun p hp => List.mem_append_right _ (h p hp)
theorem room_lt {u k n L : Nat} (h : u + n < L) (e : k ≤ n) : u + k < L := Nat.lt_of_le_of_lt (Nat.add_le_add_left e u) h
theorem room_lt2 {u a b n L : Nat} (h : u + n < L) (e : a + b ≤ n) : u + a + b < L := Nat.add_assoc u a b ▸ room_lt h e
theorem room_lt3 {u a b c n L : Nat} (h : u + n < L) (e : a + b + c ≤ n) : u + a + b + c < L := Nat.add_assoc u a b ▸ Nat.add_assoc u (a + b) c ▸ room_lt h e
theorem room_lt0 {u n L : Nat} (h : u + n < L) : u < L := Nat.lt_of_le_of_lt (Nat.le_add_right u n) h
-- Base
noncomputable abbrev pw := PySem.Challenge.pw_pf0391_01
noncomputable abbrev VTok := Tok
noncomputable abbrev Led := List (Addr × Obj)
noncomputable abbrev tupOf (its : Array Value) (n : Nat) : Obj := { cls := .type "tuple", data := .seq its n }

section
variable {prog : Program} {w : World} {A A₀ : Around} {E : Value → Shared → Prop} {s : Shared} {K : Frag} {C L : Addr} {h₀ base : Heap} {m mg mb : Str → Option Value} {news : List (Addr × Obj)} {p : Program} {loose : List Str} {mean : ExcName → Option Value} {Q : Value → Shared → Prop}
theorem code_con {env : Env} {outer : List Env} {R : Result → Shared → Prop} {name qual : Str} {params : Arguments} {body : List Stmt} {scope : Scope} {dV kV doc pm cdv ct oc : Value} {an od : Option Addr} {osl : Array (Option Value)} {f : Addr} {args : Args} {binds : List (Str × Value)}
    (B : Below A₀ base outer h₀) (F : Fr h₀ L s.heap m) (X₀ : K.In h₀) (N : News h₀ L s.heap news) (T : Top p loose mean mg mb h₀) (hA : A.frames = some (env :: outer)) (hf : env.frame = some L) (hke : env.scope.kind = .function)
    (ho : K.lookup f = some ⟨oc, od, .func (fnOf name qual params body scope dV kV doc pm an cdv ct), osl⟩) (hcd : codeIn K cdv qual = true) (hroom : A.depth < recursionLimit)
    (hbind : BindsTo s (fnOf name qual params body scope dV kV doc pm an cdv ct) args binds) (hloc : ∀ y ∈ binds, scope.names.lookup y.1 = some .local)
    (h : ∀ g L' h₁, Fr h₀ L g m → Fr g L' h₁ (fun y => binds.reverse.lookup y) → News g L' h₁ news → Below A base (env :: outer) g → K.In g → Top p loose mean mg mb g →
      (∀ b o, s.heap.get? b = some o → b ∉ news.map (·.1) → g.get? b = some o) → (∀ p ∈ news, p.1 < L') →
      wpAny (model prog w) (A.deeper (envOf qual scope L' f cdv)) (execs body (envOf qual scope L' f cdv))
        (fun fl s' => LeaveK h₀ L m g (fun r s'' => g.StaysIn s''.heap → R r s'') (match fl with | .ret v => v | _ => .none) s')
        (fun e s' => wpAny (model prog w) (A.deeper (envOf qual scope L' f cdv)) (leaving (envOf qual scope L' f cdv) e) (fun _ s'' => R (.error e) s'') (fun e' s'' => R (.error e') s'') s')
        { s with heap := h₁, toks := s.toks + binds.length })
    (hco : scope.isCoroutine = false) (hgen : scope.isGenerator = false) (hk : scope.kind = .function)
    (hcell : ∀ x ∈ scope.names, x.2 ≠ .cell) : codeAny (model prog w) A (.call (.ref f) args) R s := by
  obtain ⟨FG, BG, st, lv⟩ := groundX (R := fun r s'' => (hideAll s.heap (news.map (·.1))).StaysIn s''.heap → R r s'') B F N hA hf hke
  refine codeAny_call_def (fd := fnOf name qual params body scope dV kV doc pm an cdv ct) (body := body) (binds := binds) hroom ((X₀.keeps F.keep) _ _ ho) rfl (T.nolimit.keeps F.keep) (codeRec_of (X₀.keeps F.keep) hcd) rfl hbind hcell hloc (fun h₁ hns hk₁ => ?_) hco hgen hk
  refine wpAny_mono (h _ s.heap.objs.size h₁ FG ⟨hns, fun b o e => hk₁ b o (of_hideAll _ e), Nat.le_of_eq (hideAll_size _ _)⟩
    (fun p hp => ⟨hk₁ _ _ (N p hp).1, Nat.ne_of_lt (Heap.lt_size (N p hp).1), hideAll_none _ (List.mem_map_of_mem hp)⟩) BG (X₀.keeps st) (T.keeps st) (fun b o e hn => hideAll_get _ e hn) (fun p hp => Heap.lt_size (N p hp).1)) (fun fl s' hl => ?_) fun _ _ y => y
  have hl' := hl
  obtain ⟨L', m', news', F', N', k⟩ := hl'
  exact lv _ _ hl F'.keep
end

section
variable {prog : Program} {w : World} {A A₀ : Around} {E : Value → Shared → Prop} {s : Shared} {K : Frag} {C L : Addr} {h₀ base : Heap} {m mg mb : Str → Option Value} {news : List (Addr × Obj)} {p : Program} {loose : List Str} {mean : ExcName → Option Value} {Q : Value → Shared → Prop}
theorem code_conC {env : Env} {outer : List Env} {R : Result → Shared → Prop} {name qual : Str} {params : Arguments} {body : List Stmt} {scope : Scope} {dV kV doc pm cdv ct oc : Value} {an od : Option Addr} {osl : Array (Option Value)} {f : Addr} {args : Args} {binds : List (Str × Value)}
    (B : Below A₀ base outer h₀) (F : Fr h₀ L s.heap m) (X₀ : K.In h₀) (N : News h₀ L s.heap news) (T : Top p loose mean mg mb h₀) (hA : A.frames = some (env :: outer)) (hf : env.frame = some L) (hke : env.scope.kind = .function)
    (ho : K.lookup f = some ⟨oc, od, .func (fnOf name qual params body scope dV kV doc pm an cdv ct), osl⟩) (hcd : codeIn K cdv qual = true) (hroom : A.depth < recursionLimit)
    (hbind : BindsTo s (fnOf name qual params body scope dV kV doc pm an cdv ct) args binds) (hkind : (binds.all fun y => scope.names.lookup y.1 == some .local || scope.names.lookup y.1 == some .cell) = true)
    (hnd : ((cellsFrom 0 scope.names []).map (·.1)).Nodup)
    (h : ∀ g L' h₁ tk cells, Fr h₀ L g m → Fr g L' h₁ (bindL (envOfC qual scope L' f cdv).kindOf binds fun _ => none) → News g L' h₁ (cells ++ news) →
      CellsAre (bindC (envOfC qual scope L' f cdv).kindOf binds fun _ => none) (cellsFrom (L' + 1) scope.names []) cells → Below A base (env :: outer) g → K.In g → Top p loose mean mg mb g →
      (∀ b o, s.heap.get? b = some o → b ∉ news.map (·.1) → g.get? b = some o) → (∀ p ∈ news, p.1 < L') →
      wpAny (model prog w) (A.deeper (envOfC qual scope L' f cdv)) (execs body (envOfC qual scope L' f cdv))
        (fun fl s' => LeaveK h₀ L m g (fun r s'' => g.StaysIn s''.heap → R r s'') (match fl with | .ret v => v | _ => .none) s')
        (fun e s' => wpAny (model prog w) (A.deeper (envOfC qual scope L' f cdv)) (leaving (envOfC qual scope L' f cdv) e) (fun _ s'' => R (.error e) s'') (fun e' s'' => R (.error e') s'') s')
        { s with heap := h₁, toks := tk })
    (hco : scope.isCoroutine = false) (hgen : scope.isGenerator = false) (hk : scope.kind = .function) : codeAny (model prog w) A (.call (.ref f) args) R s := by
  obtain ⟨FG, BG, st, lv⟩ := groundX (R := fun r s'' => (hideAll s.heap (news.map (·.1))).StaysIn s''.heap → R r s'') B F N hA hf hke
  refine codeAny_call_function hroom ((X₀.keeps F.keep) _ _ ho) rfl hco hgen rfl (codeRec_of (X₀.keeps F.keep) hcd) (hbind _ _ _ _ ?_)
  refine wpAny_newFunctionEnv_cells hk (kindsX hkind _) fun env' he s' x => ?_
  subst he
  refine ⟨(T.nolimit.keeps F.keep).keeps x.toInCall.keep, codeAny_func ?_⟩
  obtain ⟨h₁, tk, rfl, _⟩ := x.done
  have hk₁ := x.toInCall.keep
  obtain ⟨cells, NC, Y⟩ := Cl.news (h₀ := s.heap) (Nat.le_refl _) fun n c hm => ⟨x.cell n c (lookup_of_mem_nodup (cellsFrom_names scope.names 0 (s.heap.objs.size + 1) [] [] rfl ▸ hnd) hm), x.above n c hm⟩
  refine wpAny_mono (h _ s.heap.objs.size h₁ tk cells FG ⟨x.toInCall.ns, fun b o e => hk₁ b o (of_hideAll _ e), Nat.le_of_eq (hideAll_size _ _)⟩ (fun p hp => ?_) Y BG (X₀.keeps st) (T.keeps st) (fun b o e hn => hideAll_get _ e hn) (fun p hp => Heap.lt_size (N p hp).1)) (fun fl s' hl => ?_) fun _ _ y => y
  · rcases List.mem_append.mp hp with hp | hp
    · refine ⟨(NC p hp).1, (NC p hp).2.1, ?_⟩
      cases q : (hideAll s.heap (news.map (·.1))).get? p.1 with
      | none => rfl
      | some o => have := of_hideAll _ q; rw [(NC p hp).2.2] at this; cases this
    · exact ⟨hk₁ _ _ (N p hp).1, Nat.ne_of_lt (Heap.lt_size (N p hp).1), hideAll_none _ (List.mem_map_of_mem hp)⟩
  · have hl' := hl
    obtain ⟨L', m', news', F', N', k⟩ := hl'
    exact lv _ _ hl F'.keep
end

/-- a def's contract: from the ledger `pre`, called with `vs`, it hands back (r, post) with `Post r post`; all else of the heap stays -/
noncomputable def ConRet (pre : Led) (h₀ : Heap) (L : Addr) (m : Str → Option Value) (s : Shared) (Q : Value → Shared → Prop) (Post : Value → Led → Prop) : Prop :=
  ∀ r post h' tk', Post r post → Fr h₀ L h' m → News h₀ L h' post → (∀ b o, s.heap.get? b = some o → b ∉ pre.map (·.1) → h'.get? b = some o) →
      (∀ q ∈ post, q.1 ∈ pre.map (·.1) ∨ s.heap.get? q.1 = none) → Q r { s with heap := h', toks := tk' }
noncomputable def Con (w : World) (f : Addr) (vs : List Value) (dn un0 : Nat) (pre : Led) (Post : Value → Led → Prop) : Prop :=
  ∀ (p : Program) (loose : List Str) (mean : ExcName → Option Value) (mg mb : Str → Option Value)
    (dp un : Nat) (gd : Option (List Code)) (cn : Str) (cs : Scope) (a : Addr) (ccd : Value) (cl : List (Str × Addr)) (outer : List Env) (A₀ : Around) (base h₀ : Heap) (L : Addr) (m : Str → Option Value)
    (s : Shared) (Q E : Value → Shared → Prop),
    Below A₀ base outer h₀ → Fr h₀ L s.heap m → (Mine.hd.heap_1 w.params).In h₀ → News h₀ L s.heap pre → Top p loose mean mg mb h₀ → cs.kind = .function →
    dp + dn < recursionLimit → un + un0 < cLine → ConRet pre h₀ L m s Q Post →
    wpAny (model pw w) (ktrTop dp un gd cn cs L a ccd cl outer) (call (.ref f) vs) Q E s

theorem con_end {pre : Led} {g h₀ : Heap} {L L' : Addr} {m : Str → Option Value} {s : Shared} {Q : Value → Shared → Prop} {Post : Value → Led → Prop} {r : Value} {h' : Heap} {tk' : Nat} {news' : Led}
   (hret : ConRet pre h₀ L m s Q Post) (hin : ∀ b o, s.heap.get? b = some o → b ∉ pre.map (·.1) → g.get? b = some o) (stay : g.StaysIn h') (N' : News g L' h' news') (F : Fr h₀ L h' m) (N : News h₀ L h' news')
   (post : Led) (hs : ∀ p ∈ post, p ∈ news') (hp : Post r post) : Q r { s with heap := h', toks := tk' } := by
  refine hret r post h' tk' hp F (fun p hp => N p (hs p hp)) (fun b o e hn => stay b o (hin b o e hn)) fun q hq => ?_
  by_cases hm : q.1 ∈ pre.map (·.1)
  · exact .inl hm
  · right
    cases e : s.heap.get? q.1 with
    | none => rfl
    | some o =>
      have := hin _ _ e hm
      have z := (N' q (hs q hq)).2.2
      rw [this] at z; cases z

theorem con_use {w : World} {f : Addr} {vs : List Value} {dn un0 : Nat} {pre : Led} {Post : Value → Led → Prop}
    {p : Program} {loose : List Str} {mean : ExcName → Option Value} {mg mb : Str → Option Value}
    {dp un : Nat} {gd : Option (List Code)} {cn : Str} {cs : Scope} {a : Addr} {ccd : Value} {cl : List (Str × Addr)} {outer : List Env} {A₀ : Around} {base h₀ : Heap} {L : Addr} {m : Str → Option Value}
    {s : Shared} {Q E : Value → Shared → Prop} {news : Led} (C : Con w f vs dn un0 pre Post)
    (B : Below A₀ base outer h₀) (F : Fr h₀ L s.heap m) (X : (Mine.hd.heap_1 w.params).In h₀) (N : News h₀ L s.heap news) (T : Top p loose mean mg mb h₀) (hk : cs.kind = .function)
    (hd : dp + dn < recursionLimit) (hu : un + un0 < cLine) (hp : ∀ q ∈ pre, q ∈ news)
    (ret : ∀ r post h' tk', Post r post → Fr h₀ L h' m → News h₀ L h' post → (∀ q ∈ news, q.1 ∉ pre.map (·.1) → h'.get? q.1 = some q.2 ∧ q.1 ≠ L ∧ h₀.get? q.1 = none) →
      (∀ q ∈ post, q.1 ∈ pre.map (·.1) ∨ ∀ p ∈ news, p.1 ≠ q.1) → Q r { s with heap := h', toks := tk' }) :
    wpAny (model pw w) (ktrTop dp un gd cn cs L a ccd cl outer) (call (.ref f) vs) Q E s :=
  C _ _ _ _ _ _ _ _ _ _ _ _ _ _ _ _ _ _ _ _ _ _ B F X (fun q hq => N q (hp q hq)) T hk hd hu fun r post h' tk' hP F' N' keep fresh =>
    ret r post h' tk' hP F' N' (fun q hq hn => ⟨keep _ _ (N q hq).1 hn, (N q hq).2⟩) fun q hq => (fresh q hq).imp id fun hz p hp e => by
      have := (N p hp).1
      rw [e, hz] at this; cases this
inductive Rem (p : Addr × Obj) : Led → Led → Prop
  | head {l} : Rem p (p :: l) l
  | tail {q l l'} : Rem p l l' → Rem p (q :: l) (q :: l')
inductive Pick : Led → Led → Led → Prop
  | nil {news} : Pick [] news news
  | cons {p ps news n1 rest} : Rem p news n1 → Pick ps n1 rest → Pick (p :: ps) news rest
theorem Rem.sub {p : Addr × Obj} {l l' : Led} (h : Rem p l l') : p ∈ l ∧ ∀ q ∈ l', q ∈ l := by
  induction h with
  | head => exact ⟨.head _, fun q hq => .tail _ hq⟩
  | tail _ ih => exact ⟨.tail _ ih.1, fun q hq => by
      rcases List.mem_cons.mp hq with rfl | hq
      · exact .head _
      · exact .tail _ (ih.2 q hq)⟩
theorem Pick.sub {pre news rest : Led} (h : Pick pre news rest) : (∀ q ∈ pre, q ∈ news) ∧ ∀ q ∈ rest, q ∈ news := by
  induction h with
  | nil => exact ⟨fun _ hq => (nomatch hq), fun _ hq => hq⟩
  | cons hr _ ih =>
    refine ⟨fun q hq => ?_, fun q hq => hr.sub.2 q (ih.2 q hq)⟩
    rcases List.mem_cons.mp hq with rfl | hq
    · exact hr.sub.1
    · exact hr.sub.2 q (ih.1 q hq)
theorem con_upd {w : World} {f : Addr} {vs : List Value} {dn un0 : Nat} {pre rest : Led} {Post : Value → Led → Prop}
    {p : Program} {loose : List Str} {mean : ExcName → Option Value} {mg mb : Str → Option Value}
    {dp un : Nat} {gd : Option (List Code)} {cn : Str} {cs : Scope} {a : Addr} {ccd : Value} {cl : List (Str × Addr)} {outer : List Env} {A₀ : Around} {base h₀ : Heap} {L : Addr} {m : Str → Option Value}
    {s : Shared} {Q E : Value → Shared → Prop} {news : Led} (C : Con w f vs dn un0 pre Post)
    (B : Below A₀ base outer h₀) (F : Fr h₀ L s.heap m) (X : (Mine.hd.heap_1 w.params).In h₀) (N : News h₀ L s.heap news) (T : Top p loose mean mg mb h₀) (hk : cs.kind = .function)
    (hp : Pick pre news rest) (hoff : ∀ b ∈ pre.map (·.1), ∀ p ∈ rest, p.1 ≠ b) (hd : dp + dn < recursionLimit) (hu : un + un0 < cLine)
    (ret : ∀ r post h' tk', Post r post → Fr h₀ L h' m → News h₀ L h' (post ++ rest) → (∀ q ∈ post, q.1 ∈ pre.map (·.1) ∨ ∀ p ∈ news, p.1 ≠ q.1) → Q r { s with heap := h', toks := tk' }) :
    wpAny (model pw w) (ktrTop dp un gd cn cs L a ccd cl outer) (call (.ref f) vs) Q E s :=
  con_use C B F X N T hk hd hu hp.sub.1 fun r post h' tk' hP F' N' keep fresh => ret r post h' tk' hP F' (fun q hq => by
    rcases List.mem_append.mp hq with hq | hq
    · exact N' q hq
    · exact keep q (hp.sub.2 q hq) fun hm => hoff _ hm q hq rfl) fresh
theorem con_m {w : World} {f : Addr} {vs : List Value} {dn un0 : Nat} {W Ro rest : Led} {Post : Value → Led → Prop}
    {p : Program} {loose : List Str} {mean : ExcName → Option Value} {mg mb : Str → Option Value}
    {dp un : Nat} {gd : Option (List Code)} {cn : Str} {cs : Scope} {a : Addr} {ccd : Value} {cl : List (Str × Addr)} {outer : List Env} {A₀ : Around} {base h₀ : Heap} {L : Addr} {m : Str → Option Value}
    {s : Shared} {Q E : Value → Shared → Prop} {news : Led} (C : Con w f vs dn un0 (W ++ Ro) (fun v post => ∃ W', post = W' ++ Ro ∧ Post v W'))
    (B : Below A₀ base outer h₀) (F : Fr h₀ L s.heap m) (X : (Mine.hd.heap_1 w.params).In h₀) (N : News h₀ L s.heap news) (T : Top p loose mean mg mb h₀) (hk : cs.kind = .function)
    (hp : Pick W news rest) (hro : ∀ q ∈ Ro, q ∈ rest) (hoff : ∀ b ∈ W.map (·.1), ∀ p ∈ rest, p.1 ≠ b) (hd : dp + dn < recursionLimit) (hu : un + un0 < cLine)
    (ret : ∀ r W' h' tk', Post r W' → Fr h₀ L h' m → News h₀ L h' (W' ++ rest) → (∀ q ∈ W', q.1 ∈ (W ++ Ro).map (·.1) ∨ ∀ p ∈ news, p.1 ≠ q.1) → Q r { s with heap := h', toks := tk' }) :
    wpAny (model pw w) (ktrTop dp un gd cn cs L a ccd cl outer) (call (.ref f) vs) Q E s := by
  have hall : ∀ q ∈ W ++ Ro, q ∈ news := fun q hq => (List.mem_append.mp hq).elim (hp.sub.1 q) fun h => hp.sub.2 q (hro q h)
  refine con_use C B F X N T hk hd hu hall fun r post h' tk' hP F' N' keep fresh => ?_
  obtain ⟨W', rfl, hP⟩ := hP
  refine ret r W' h' tk' hP F' (fun q hq => ?_) fun q hq => fresh q (List.mem_append_left _ hq)
  rcases List.mem_append.mp hq with hq | hq
  · exact N' q (List.mem_append_left _ hq)
  · by_cases hm : q.1 ∈ (W ++ Ro).map (·.1)
    · rw [List.map_append, List.mem_append] at hm
      rcases hm with hm | hm
      · exact absurd rfl (hoff _ hm q hq)
      · obtain ⟨q', hq', e⟩ := List.mem_map.mp hm
        have z1 := (N q (hp.sub.2 q hq)).1
        have z2 := (N q' (hall q' (List.mem_append_right _ hq'))).1
        rw [e, z1] at z2
        have z3 := N' q' (List.mem_append_right _ hq')
        exact ⟨by have := z3.1; rw [e, ← Option.some.inj z2] at this; exact this, by rw [← e]; exact z3.2.1, by rw [← e]; exact z3.2.2⟩
    · exact keep q (hp.sub.2 q hq) hm
theorem con_ro {w : World} {f : Addr} {vs : List Value} {dn un0 : Nat} {pre : Led} {R : Value → Prop}
    {p : Program} {loose : List Str} {mean : ExcName → Option Value} {mg mb : Str → Option Value}
    {dp un : Nat} {gd : Option (List Code)} {cn : Str} {cs : Scope} {a : Addr} {ccd : Value} {cl : List (Str × Addr)} {outer : List Env} {A₀ : Around} {base h₀ : Heap} {L : Addr} {m : Str → Option Value}
    {s : Shared} {Q E : Value → Shared → Prop} {news : Led} (C : Con w f vs dn un0 pre (fun r post => R r ∧ post = pre))
    (B : Below A₀ base outer h₀) (F : Fr h₀ L s.heap m) (X : (Mine.hd.heap_1 w.params).In h₀) (N : News h₀ L s.heap news) (T : Top p loose mean mg mb h₀) (hk : cs.kind = .function)
    (hp : ∀ q ∈ pre, q ∈ news) (hd : dp + dn < recursionLimit) (hu : un + un0 < cLine)
    (ret : ∀ r h' tk', R r → Fr h₀ L h' m → News h₀ L h' news → Q r { s with heap := h', toks := tk' }) :
    wpAny (model pw w) (ktrTop dp un gd cn cs L a ccd cl outer) (call (.ref f) vs) Q E s := by
  refine C _ _ _ _ _ _ _ _ _ _ _ _ _ _ _ _ _ _ _ _ _ _ B F X (fun q hq => N q (hp q hq)) T hk hd hu fun r post h' tk' hP F' N' keep fresh => ?_
  obtain ⟨hR, rfl⟩ := hP
  refine ret r h' tk' hR F' fun q hq => ?_
  by_cases hm : q.1 ∈ post.map (·.1)
  · obtain ⟨q', hq', e⟩ := List.mem_map.mp hm
    have z1 := (N q hq).1
    have z2 := (N q' (hp q' hq')).1
    rw [e, z1] at z2
    have z3 := (N' q' hq').1
    rw [e, ← Option.some.inj z2] at z3
    exact ⟨z3, (N q hq).2⟩
  · exact ⟨keep _ _ (N q hq).1 hm, (N q hq).2⟩
noncomputable def NeA (a b : Nat) : Prop := a ≠ b
theorem NeA.ne {a b : Nat} (h : NeA a b) : a ≠ b := h
theorem NeA.en {a b : Nat} (h : NeA a b) : b ≠ a := Ne.symm h
theorem nd2 {a b : Nat} (h : [a, b].Nodup) : NeA a b := by simp at h; exact h
theorem nd3 {a b c : Nat} (h : [a, b, c].Nodup) : NeA a b ∧ NeA a c ∧ NeA b c := by simp at h; exact ⟨h.1.1, h.1.2, h.2⟩
theorem nd4 {a b c d : Nat} (h : [a, b, c, d].Nodup) : NeA a b ∧ NeA a c ∧ NeA a d ∧ NeA b c ∧ NeA b d ∧ NeA c d := by
  simp at h; exact ⟨h.1.1, h.1.2.1, h.1.2.2, h.2.1.1, h.2.1.2, h.2.2⟩
theorem nd5 {a b c d e : Nat} (h : [a, b, c, d, e].Nodup) : NeA a b ∧ NeA a c ∧ NeA a d ∧ NeA a e ∧ NeA b c ∧ NeA b d ∧ NeA b e ∧ NeA c d ∧ NeA c e ∧ NeA d e := by
  simp at h; exact ⟨h.1.1, h.1.2.1, h.1.2.2.1, h.1.2.2.2, h.2.1.1, h.2.1.2.1, h.2.1.2.2, h.2.2.1.1, h.2.2.1.2, h.2.2.2⟩
noncomputable def okind (o : Obj) : Nat := match o.data with
  | .plain => 0
  | .dict .. => 1
  | .seq .. => if o.cls == .type "tuple" then 3 else 2
  | _ => 4
theorem led_ne {h₀ h : Heap} {L a b : Addr} {o o' : Obj} {news : Led} (N : News h₀ L h news) (ha : (a, o) ∈ news) (hb : (b, o') ∈ news) (e : (okind o == okind o') = false := by rfl) : NeA a b := by
  intro q
  have z1 := (N _ ha).1
  have z2 := (N _ hb).1
  have q' : a = b := q
  subst q'
  rw [z1] at z2
  cases z2
  simp at e
set_option genInjectivity false in
structure RowT where
  (h1 h2 h3 h4 h5 : Int) (k1 k2 k3 k4 k5 : Nat)
  deriving Inhabited
noncomputable abbrev rowD (T : RowT) (t1 t2 t4 t5 : Nat) (most mo : Int) (t : Addr) (oct drop : Int) : Obj := dictOf [⟨T.h1, .str (Str.ofString "most") T.k1, .int most t1⟩, ⟨T.h2, .str (Str.ofString "most_octets") T.k2, .int mo t2⟩,
  ⟨T.h3, .str (Str.ofString "things") T.k3, .ref t⟩, ⟨T.h4, .str (Str.ofString "octets") T.k4, .int oct t4⟩, ⟨T.h5, .str (Str.ofString "dropped") T.k5, .int drop t5⟩] 5
set_option genInjectivity false in
structure RowI where
  (r rd t : Nat) (RT : RowT) (t1 t2 t4 t5 : Nat) (most mo oct drop : Int) (its : List Value) (ep : Nat)
  deriving Inhabited
noncomputable def RowI.objs (x : RowI) : Led := [(x.r, instObj 106 x.rd), (x.rd, rowD x.RT x.t1 x.t2 x.t4 x.t5 x.most x.mo x.t x.oct x.drop), (x.t, listOf x.its.toArray x.ep)]
noncomputable def rowsObjs (xs : List RowI) : Led := xs.flatMap RowI.objs
noncomputable def rowRefs (xs : List RowI) : List Value := xs.map fun x => Value.ref x.r
noncomputable def thingsIn (xs : List RowI) : Int := (xs.map fun x => (x.its.length : Int)).sum
theorem rowsObjs_mem {xs : List RowI} {x : RowI} (hx : x ∈ xs) : (x.r, instObj 106 x.rd) ∈ rowsObjs xs ∧ (x.rd, rowD x.RT x.t1 x.t2 x.t4 x.t5 x.most x.mo x.t x.oct x.drop) ∈ rowsObjs xs ∧ (x.t, listOf x.its.toArray x.ep) ∈ rowsObjs xs := by
  refine ⟨List.mem_flatMap.mpr ⟨x, hx, ?_⟩, List.mem_flatMap.mpr ⟨x, hx, ?_⟩, List.mem_flatMap.mpr ⟨x, hx, ?_⟩⟩ <;> simp [RowI.objs]
theorem rowRefs_at {xs : List RowI} {i : Nat} {v : Value} (h : (rowRefs xs).toArray[i]? = some v) : ∃ x, xs[i]? = some x ∧ v = .ref x.r := by
  simp only [rowRefs, List.getElem?_toArray, List.getElem?_map, Option.map_eq_some_iff] at h
  obtain ⟨x, h1, h2⟩ := h
  exact ⟨x, h1, h2.symm⟩
theorem rowRefs_length (xs : List RowI) : (rowRefs xs).length = xs.length := by simp [rowRefs]
theorem ints_snoc {ys : List Value} {ns : List Int} (h : IntsAre ys ns) (k : Int) (t : Tok) : IntsAre (ys ++ [.int k t]) (ns ++ [k]) := by
  induction h with
  | nil => exact .cons _ _ .nil
  | cons a b _ ih => exact .cons a b ih
theorem take_snoc {α : Type} {xs : List α} {i : Nat} {x : α} (h : xs[i]? = some x) : xs.take (i + 1) = xs.take i ++ [x] := by
  rw [List.take_add_one, h]; rfl
theorem ints_rep (t : Tok) : ∀ n : Nat, IntsAre (List.replicate n (.int 0 t)) (List.replicate n 0)
  | 0 => .nil
  | n + 1 => .cons _ _ (ints_rep t n)
theorem nodup_put {A B : List Nat} {a x : Nat} (h : (A ++ a :: B).Nodup) (hA : ∀ y ∈ A, y < x) (hB : ∀ y ∈ B, y < x) : (A ++ x :: B).Nodup := by
  rw [List.nodup_append] at h ⊢
  obtain ⟨h1, h2, h3⟩ := h
  obtain ⟨h4, h5⟩ := List.nodup_cons.mp h2
  refine ⟨h1, List.nodup_cons.mpr ⟨fun hx => Nat.lt_irrefl _ (hB _ hx), h5⟩, fun y hy z hz => ?_⟩
  rcases List.mem_cons.mp hz with rfl | hz
  · exact Nat.ne_of_lt (hA y hy)
  · exact h3 y hy z (.tail _ hz)
set_option genInjectivity false in
structure WfT where
  (h1 h2 h3 h4 h5 h6 : Int) (k1 k2 k3 k4 k5 k6 : Nat)
  deriving Inhabited
noncomputable abbrev wfD (T : WfT) (t1 t6 : Nat) (unit : Int) (sa ra fa la : Addr) (time : Int) : Obj := dictOf [⟨T.h1, .str (Str.ofString "unit") T.k1, .int unit t1⟩, ⟨T.h2, .str (Str.ofString "steps") T.k2, .ref sa⟩, ⟨T.h3, .str (Str.ofString "rows") T.k3, .ref ra⟩,
  ⟨T.h4, .str (Str.ofString "finishes") T.k4, .ref fa⟩, ⟨T.h5, .str (Str.ofString "last") T.k5, .ref la⟩, ⟨T.h6, .str (Str.ofString "time") T.k6, .int time t6⟩] 6
inductive Two (a b : Nat) : List Nat → Prop
  | here {l} : b ∈ l → Two a b (a :: l)
  | there {c l} : Two a b l → Two a b (c :: l)
theorem Two.ne {a b : Nat} {l : List Nat} (h : l.Nodup) (t : Two a b l) : a ≠ b := by
  induction t with
  | here hm => intro e; subst e; exact (List.nodup_cons.mp h).1 hm
  | there _ ih => exact ih (List.nodup_cons.mp h).2
theorem Two.en {a b : Nat} {l : List Nat} (h : l.Nodup) (t : Two a b l) : b ≠ a := (Two.ne h t).symm
noncomputable def Hide (P : Prop) : Prop := P
noncomputable def Hold (P : Prop) : Prop := P
theorem hold {P : Prop} (h : Hold P) : P := h
theorem off_of_nodup {adr : List Nat} {R : Led} (h : (adr ++ R.map (·.1) : List Nat).Nodup) : OwnOff R adr := fun p hp b hb e => by
  have := (List.nodup_append.mp h).2.2 b hb p.1 (List.mem_map.mpr ⟨p, hp, rfl⟩)
  exact this e.symm
theorem fm {a b : Int} (hb : 0 < b) : 0 ≤ a.fmod b ∧ a.fmod b < b := by
  rw [Int.fmod_eq_emod_of_nonneg _ (Int.le_of_lt hb)]
  exact ⟨Int.emod_nonneg _ (by (first | lia | omega)), Int.emod_lt_of_pos _ hb⟩
section
variable {prog : Program} {w : World} {A : Around} {E : Value → Shared → Prop} {s : Shared} {h₀ : Heap} {L l : Addr} {m : Str → Option Value} {news news' : Led} {its : List Value} {n : Nat}
theorem len_led {Q : Value → Shared → Prop} (N : News h₀ L s.heap news) (hm : (l, listOf its.toArray n) ∈ news) (hz : its.length ≤ 1000000)
    (h : Q (.int (its.length : Int) (s.toks + 1)) { s with toks := s.toks + 1 + 1 }) : wpAny (model prog w) A (call (.builtin "len") [.ref l]) Q E s :=
  len_list ⟨_, (N _ hm).1, rfl, n, rfl⟩ (by rw [List.size_toArray]; (first | lia | omega)) (by rw [List.size_toArray]; exact h)
theorem max2_led {a b : Int} {t u : Tok} {Q : Value → Shared → Prop} (hh : A.handled = none) (F : Fr h₀ L s.heap m) (N : News h₀ L s.heap news)
    (h : ∀ h' tk t', Fr h₀ L h' m → News h₀ L h' news → Q (.int (max a b) t') { s with heap := h', toks := tk }) :
    wpAny (model prog w) A (call (.builtin "max") [.int a t, .int b u]) Q E s :=
  max_two_N hh F N fun h' tk F' N' => by
    have e : (if b > a then b else a) = max a b := by split <;> (first | lia | omega)
    rw [e]; exact h h' tk _ F' N'
theorem min2_led {a b : Int} {t u : Tok} {Q : Value → Shared → Prop} (hh : A.handled = none) (F : Fr h₀ L s.heap m) (N : News h₀ L s.heap news)
    (h : ∀ h' tk t', Fr h₀ L h' m → News h₀ L h' news → Q (.int (min a b) t') { s with heap := h', toks := tk }) :
    wpAny (model prog w) A (call (.builtin "min") [.int a t, .int b u]) Q E s :=
  min_two_N hh F N fun h' tk F' N' => by
    have e : (if b < a then b else a) = min a b := by split <;> (first | lia | omega)
    rw [e]; exact h h' tk _ F' N'
theorem fold_rep (v : Value) : ∀ (n : Nat) (acc : Array Value), List.foldl (fun x1 x2 => x1 ++ x2) acc (List.replicate n #[v]) = acc ++ (List.replicate n v).toArray
  | 0, acc => by simp
  | n + 1, acc => by
    rw [List.replicate_succ, List.foldl_cons, fold_rep v n]
    apply Array.toList_inj.mp
    simp [List.replicate_succ]
theorem mulrep_led {v : Value} {k : Nat} {x : Int} {u : Tok} {Q : Value → Shared → Prop} (F : Fr h₀ L s.heap m) (N : News h₀ L s.heap news) (hm : (l, listOf #[v] k) ∈ news) (h0 : 0 ≤ x) (h1 : x ≤ 1000000)
    (h : ∀ D h', Fr h₀ L h' m → News h₀ L h' ((D, listOf (List.replicate x.toNat v).toArray 0) :: news) → (∀ p ∈ news, p.1 < D) → Q (.ref D) { s with heap := h' }) :
    wpAny (model prog w) A (binaryOp .Mult (.ref l) (.int x u)) Q E s := by
  refine mul_list F N (N _ hm).1 (by (first | lia | omega)) (by (first | lia | omega)) (by simp; (first | lia | omega)) fun h' F' N' => ?_
  refine h _ h' F' ?_ fun p hp => Heap.lt_size (N p hp).1
  have e : (List.foldl (fun x1 x2 => x1 ++ x2) #[] (List.replicate (if (#[v] : Array Value).isEmpty = true then 0 else x.toNat) #[v])) = (List.replicate x.toNat v).toArray := by
    rw [fold_rep]; simp
  rw [e] at N'
  exact N'
theorem set_led {vs : List Value} {k : Int} {t : Tok} {v : Value} {Q : Unit → Shared → Prop} (F : Fr h₀ L s.heap m) (N : News h₀ L s.heap news) (U : Upd l (listOf vs.toArray n) (listOf (vs.set k.toNat v).toArray n) news news') (h0 : 0 ≤ k) (h1 : k < vs.length) (hfit : k < 2 ^ 63)
    (h : ∀ h', Fr h₀ L h' m → News h₀ L h' news' → Q () { s with heap := h' }) :
    wpAny (model prog w) A (setItem (.ref l) (.int k t) v) Q E s := by
  obtain ⟨pre, post, rfl, rfl, a, b⟩ := U.split
  have z := N (l, listOf vs.toArray n) (List.mem_append.mpr (.inr (.head _)))
  refine ki_setAt z.1 h0 hfit (by rw [List.size_toArray]; exact h1) (h _ (F.change (Heap.SameBut.update ..) z.2.1 z.2.2) (ki_turn _ N a b ?_ ?_))
  · show vs.toArray.setIfInBounds k.toNat v = (vs.set k.toNat v).toArray
    apply Array.toList_inj.mp
    simp
  · simp
theorem fresh1 {news : Led} {D x : Nat} {o : Obj} (h : ∀ p ∈ news, p.1 < D) (hm : ((x : Addr), o) ∈ news) : x ≠ D := Nat.ne_of_lt (h _ hm)
theorem fresh2 {news : Led} {D x : Nat} {o : Obj} (h : ∀ p ∈ news, p.1 < D) (hm : ((x : Addr), o) ∈ news) : D ≠ x := (Nat.ne_of_lt (h _ hm)).symm
theorem append_led {x : Value} {Q : Value → Shared → Prop} (F : Fr h₀ L s.heap m) (N : News h₀ L s.heap news) (U : Upd l (listOf its.toArray n) (listOf (its ++ [x]).toArray (n + 1)) news news') (hz : its.length ≤ 1000000)
    (h : ∀ h', Fr h₀ L h' m → News h₀ L h' news' → Q .none { s with heap := h' }) : wpAny (model prog w) A (call (.builtin "list.append") [.ref l, x]) Q E s :=
  append_K F N (by rw [List.push_toArray]; exact U) h (by rw [List.size_toArray, sizeLine_eq]; (first | lia | omega))
theorem addT_led {a b : Addr} {xs ys : Array Value} {zs : List Value} {n1 n2 : Nat} {Q : Value → Shared → Prop} (F : Fr h₀ L s.heap m) (N : News h₀ L s.heap news) (ha : (a, tupOf xs n1) ∈ news) (hb : (b, tupOf ys n2) ∈ news)
    (e : xs.toList ++ ys.toList = zs) (hv : xs.toList ≠ []) (hw : ys.toList ≠ []) (hz : xs.toList.length + ys.toList.length ≤ 16384)
    (h : ∀ D h', Fr h₀ L h' m → News h₀ L h' ((D, tupOf zs.toArray 0) :: news) → (∀ p ∈ news, p.1 < D) → Q (.ref D) { s with heap := h' }) : wpAny (model prog w) A (binaryOp .Add (.ref a) (.ref b)) Q E s :=
  kde_addT F N ⟨_, (N _ ha).1, rfl, n1, rfl⟩ ⟨_, (N _ hb).1, rfl, n2, rfl⟩ hv hw hz e h
theorem tup_led {value slice : PySem.Expr} {k : Int} {u : Tok} {j : Nat} {x : Value} {Q : Value → Shared → Prop} (N : News h₀ L s.heap news) (hm : (l, tupOf its.toArray n) ∈ news) (hlo : -(2 ^ 63) ≤ k) (hhi : k < 2 ^ 63) (hj : seqIndex? k its.length = some j) (hx : its[j]? = some x) (h : Q x s)
    (hs : subscripted slice false (.ref l) (.int k u) = operate [.ref l, .int k u] (getItem (.ref l) (.int k u)) := by with_unfolding_all rfl) (hg : ∀ r, letTemporaryGo value (.ref l) r = pure () := by intro _; with_unfolding_all rfl) :
    wpAny (model prog w) A (subscriptTail value slice (.ref l) (.int k u)) Q E s := kim_tup N hm rfl rfl hlo hhi hj hx h hs hg
theorem fresh_ne {news R : Led} {D : Addr} (h : ∀ p ∈ news, p.1 < D) (hs : ∀ p ∈ R, p ∈ news) : ∀ p ∈ R, p.1 ≠ D := fun p hp => Nat.ne_of_lt (h p (hs p hp))
theorem compRest_ind {env : Env} {elt : PySem.Expr} {x : Str} {scope : Scope} {cl : List (Str × Addr)} {S : Led → Prop} {P : Nat → Value → Prop} {Fin : List Value → Led → Prop} {c : Nat} (Inv : Nat → List Value → Led → Prop)
    (turn : ∀ i ys news v I oI C oC D m₂ h tk (E' : Value → Shared → Prop), i < c → Inv i ys news → P i v → LCg.NsObj oC m₂ → m₂ x = some v → Fr h₀ L h m → News h₀ L h ((I, oI) :: (C, oC) :: (D, LCg.lst ys) :: news) → LCg.Off3 I C D news →
      ((@Ne Nat I C) ∧ (@Ne Nat I D) ∧ (@Ne Nat C D)) →
      wpAny (model prog w) A (eval elt (compEnvC scope cl C env)) (LCg.CompEnd h₀ L m { s with heap := h, toks := tk } I oI C oC D (LCg.lst ys) S (fun y news' => Inv (i + 1) (ys ++ [y]) news')) E' { s with heap := h, toks := tk })
    (fin : ∀ ys news, Inv c ys news → Fin ys news) : ∀ k i ys news, i + k = c → Inv i ys news → LCg.CompRest prog w A h₀ L m env elt x scope cl s S P Fin k i ys news := by
  intro k
  induction k with
  | zero => intro i ys news e hi; exact fin ys news (by rw [← e]; exact hi)
  | succ k ih =>
    intro i ys news e hi
    refine LCg.CompRest.succ fun v I oI C oC D m₂ h tk E' hP hC hx F N off ne => ?_
    refine wpAny_mono (turn i ys news v I oI C oC D m₂ h tk E' (by (first | lia | omega)) hi hP hC hx F N off ne) (fun y s₂ hq => ?_) fun _ _ z => z
    obtain ⟨h', tk', news', e1, F1, N1, off1, hS1, hI⟩ := hq
    exact ⟨h', tk', news', e1, F1, N1, off1, hS1, ih (i + 1) (ys ++ [y]) news' (by (first | lia | omega)) hI⟩
theorem compRestT_ind {env : Env} {ct elt : PySem.Expr} {x : Str} {scope : Scope} {cl : List (Str × Addr)} {S : Led → Prop} {P : Nat → Value → Prop} {Fin : List Value → Led → Prop} {c : Nat} (Inv : Nat → List Value → Led → Prop)
    (turn : ∀ i ys news v I oI C oC D m₂ h tk (E' : Value → Shared → Prop), i < c → Inv i ys news → P i v → LCg.NsObj oC m₂ → m₂ x = some v → Fr h₀ L h m → News h₀ L h ((I, oI) :: (C, oC) :: (D, LCg.lst ys) :: news) → LCg.Off3 I C D news →
      ((@Ne Nat I C) ∧ (@Ne Nat I D) ∧ (@Ne Nat C D)) →
      wpAny (model prog w) A (isTrue ct (compEnvC scope cl C env) (eval ct (compEnvC scope cl C env))) (fun ok s' => if ok = true then
        wpAny (model prog w) A (eval elt (compEnvC scope cl C env)) (LCg.CompEnd h₀ L m { s with heap := h, toks := tk } I oI C oC D (LCg.lst ys) S (fun y news' => Inv (i + 1) (ys ++ [y]) news')) E' s'
        else LCg.CompEnd h₀ L m { s with heap := h, toks := tk } I oI C oC D (LCg.lst ys) S (fun _ news' => Inv (i + 1) ys news') Value.none s') E' { s with heap := h, toks := tk })
    (fin : ∀ ys news, Inv c ys news → Fin ys news) : ∀ k i ys news, i + k = c → Inv i ys news → LCt.CompRestT prog w A h₀ L m env ct elt x scope cl s S P Fin k i ys news := by
  intro k
  induction k with
  | zero => intro i ys news e hi; exact fin ys news (by rw [← e]; exact hi)
  | succ k ih =>
    intro i ys news e hi
    refine LCt.CompRestT.succ fun v I oI C oC D m₂ h tk E' hP hC hx F N off ne => ?_
    refine wpAny_mono (turn i ys news v I oI C oC D m₂ h tk E' (by (first | lia | omega)) hi hP hC hx F N off ne) (fun ok s₂ hq => ?_) fun _ _ z => z
    cases ok with
    | true =>
      simp only [if_true] at hq ⊢
      refine wpAny_mono hq (fun y s₃ hq => ?_) fun _ _ z => z
      obtain ⟨h', tk', news', e1, F1, N1, off1, hS1, hI⟩ := hq
      exact ⟨h', tk', news', e1, F1, N1, off1, hS1, ih (i + 1) (ys ++ [y]) news' (by (first | lia | omega)) hI⟩
    | false =>
      simp only [Bool.false_eq_true, if_false] at hq ⊢
      obtain ⟨h', tk', news', e1, F1, N1, off1, hS1, hI⟩ := hq
      exact ⟨h', tk', news', e1, F1, N1, off1, hS1, ih (i + 1) ys news' (by (first | lia | omega)) hI⟩
theorem sum_led {ys : List Value} {ns : List Int} {k : Nat} {Q : Value → Shared → Prop} (hh : A.handled = none) (F : Fr h₀ L s.heap m) (N : News h₀ L s.heap news) (hm : (l, listOf ys.toArray k) ∈ news) (hi : IntsAre ys ns)
    (h : ∀ h' tk t', Fr h₀ L h' m → News h₀ L h' news → Q (.int ns.sum t') { s with heap := h', toks := tk }) : wpAny (model prog w) A (call (.builtin "sum") [.ref l]) Q E s :=
  sumK hh F N ⟨_, (N _ hm).1, rfl, k, rfl⟩ hi h
theorem itm_led {value slice : PySem.Expr} {k : Int} {u : Tok} {x : Value} {Q : Value → Shared → Prop} (N : News h₀ L s.heap news) (hm : (l, listOf its.toArray n) ∈ news) (h0 : 0 ≤ k) (hfit : k < 2 ^ 63) (hx : its[k.toNat]? = some x) (h : Q x s)
    (hs : subscripted slice false (.ref l) (.int k u) = operate [.ref l, .int k u] (getItem (.ref l) (.int k u)) := by with_unfolding_all rfl) (hg : ∀ r, letTemporaryGo value (.ref l) r = pure () := by intro _; with_unfolding_all rfl) :
    wpAny (model prog w) A (subscriptTail value slice (.ref l) (.int k u)) Q E s := kim_list N hm rfl rfl h0 hfit hx h hs hg
theorem eq_nil_led {t : Addr} {k : Nat} {Q : Value → Shared → Prop} (N : News h₀ L s.heap news) (hm : (t, listOf its.toArray n) ∈ news) (hb : (l, listOf #[] k) ∈ news) (hu : A.units < cLine)
    (h : Q (.bool its.isEmpty) s) : wpAny (model prog w) A (compareOp .Eq (.ref t) (.ref l)) Q E s := by
  have hl : s.heap.IsList t its.toArray := ⟨_, (N _ hm).1, rfl, n, rfl⟩
  have hb' : s.heap.IsList l #[] := ⟨_, (N _ hb).1, rfl, k, rfl⟩
  cases its with
  | nil => exact SeqAt.eq_listAt (e := fun _ => true) hl hb' rfl hu (fun j h1 _ => absurd h1 (Nat.not_lt_zero _)) (by simpa using h)
  | cons x r => exact SeqAt.eq_list_lengthsAt hl hb' (by simp) hu h
theorem ne_nil_led {t : Addr} {k : Nat} {Q : Value → Shared → Prop} (N : News h₀ L s.heap news) (hm : (t, listOf its.toArray n) ∈ news) (hb : (l, listOf #[] k) ∈ news) (hu : A.units < cLine)
    (h : Q (.bool (!its.isEmpty)) s) : wpAny (model prog w) A (compareOp .NotEq (.ref t) (.ref l)) Q E s := by
  have hl : s.heap.IsList t its.toArray := ⟨_, (N _ hm).1, rfl, n, rfl⟩
  have hb' : s.heap.IsList l #[] := ⟨_, (N _ hb).1, rfl, k, rfl⟩
  cases its with
  | nil => exact SeqAt.RcNeAt.lists (e := fun _ => true) hl hb' rfl hu (fun j h1 _ => absurd h1 (Nat.not_lt_zero _)) prog w E Q (by simpa using h)
  | cons x r => exact SeqAt.RcNeAt.lists_lengths hl hb' (by simp) hu prog w E Q h
theorem pop0_led {x : Value} {u : Tok} {Q : Value → Shared → Prop} (F : Fr h₀ L s.heap m) (N : News h₀ L s.heap news) (U : Upd l (listOf (x :: its).toArray n) (listOf its.toArray (n + 1)) news news') (hz : its.length ≤ 1000000)
    (h : ∀ h', Fr h₀ L h' m → News h₀ L h' news' → Q x { s with heap := h' }) : wpAny (model prog w) A (call (.builtin "list.pop") [.ref l, .int 0 u]) Q E s :=
  kl_popAt (k := 0) (p := []) (q := its) (y := x) F N rfl (by simp [seqIndex?]) rfl U (by rw [sizeLine_eq]; simp; (first | lia | omega)) h
end
section
variable {prog : Program} {w : World} {A A₀ : Around} {E : Value → Shared → Prop} {s : Shared} {K : Frag} {C L : Addr} {h₀ base : Heap} {m mg mb : Str → Option Value} {news : List (Addr × Obj)} {p : Program} {loose : List Str} {mean : ExcName → Option Value} {Q : Value → Shared → Prop}
theorem call_clsG {pos : List Value} {fI : Addr} (F : Fr h₀ L s.heap m) (X₀ : K.In h₀) (N : News h₀ L s.heap news) (hm : makesIn K C = true) (hi : findIn K (.ref C) "__init__" = some (some (.ref fI))) (hf : isFn K (.ref fI) = true)
    (h : ∀ x dx h', Fr h₀ L h' m → News h₀ L h' ((x, instObj C dx) :: (dx, dictOf [] 0) :: news) → (∀ p ∈ news, p.1 < dx) → dx < x → (∀ b o, s.heap.get? b = some o → h'.get? b = some o ∧ b ≠ x ∧ b ≠ dx) →
      codeAny (model prog w) (A.under (.builtin "type.__call__" ⟨.ref C :: pos, []⟩)) (.call (.ref fI) ⟨.ref x :: pos, []⟩) (InitBack x fun r s' => match r with | .ok (.ret v) => Q v s' | .ok _ => False | .error e => E e s') { s with heap := h' }) :
    wpAny (model prog w) A (call (.ref C) pos []) Q E s := by
  refine wpAny_call ?_
  obtain ⟨hh, g, d, t, os⟩ := s
  have hf' := beq_iff_eq.mp hf
  refine make_core (makes_of (X₀.keeps F.keep) hm) (looks_findIn (X₀.keeps F.keep) hi) (fun self => bind_fn (X₀.keeps F.keep) self hf') (.inl rfl) (h _ hh.objs.size _ ((F.push _).push _) ?_ (fun p hp => Heap.lt_size (N p hp).1) (Nat.lt_succ_self _) fun b o e => ?_)
  · have := (N.push F emptyDict).push (F.push _) (instObj C hh.objs.size)
    rwa [Heap.size_push] at this
  · have hl := Heap.lt_size e
    exact ⟨Heap.get?_push_of_some _ (Heap.get?_push_of_some _ e), Nat.ne_of_lt (Nat.lt_succ_of_lt hl), Nat.ne_of_lt hl⟩
theorem under_make (dp un : Nat) (gd : Option (List Code)) (cn : Str) (cs : Scope) (L a : Addr) (ccd : Value) (cl : List (Str × Addr)) (outer : List Env) (C : Addr) (vs : List Value) :
    (ktrTop dp un gd cn cs L a ccd cl outer).under (.builtin "type.__call__" ⟨.ref C :: vs, []⟩) = ktrTop (dp + 1) (un + 1) gd cn cs L a ccd cl outer := rfl
theorem call_clsK {dp un : Nat} {gd : Option (List Code)} {cn : Str} {cs : Scope} {a : Addr} {ccd : Value} {cl : List (Str × Addr)} {outer : List Env} {pos : List Value} {fI : Addr} (F : Fr h₀ L s.heap m) (X₀ : K.In h₀) (N : News h₀ L s.heap news) (hm : makesIn K C = true) (hi : findIn K (.ref C) "__init__" = some (some (.ref fI))) (hf : isFn K (.ref fI) = true)
    (h : ∀ x dx h', Fr h₀ L h' m → News h₀ L h' ((x, instObj C dx) :: (dx, dictOf [] 0) :: news) → (∀ p ∈ news, p.1 < dx) → dx < x → (∀ b o, s.heap.get? b = some o → h'.get? b = some o ∧ b ≠ x ∧ b ≠ dx) →
      codeAny (model prog w) (ktrTop (dp + 1) (un + 1) gd cn cs L a ccd cl outer) (.call (.ref fI) ⟨.ref x :: pos, []⟩) (InitBack x fun r s' => match r with | .ok (.ret v) => Q v s' | .ok _ => False | .error e => E e s') { s with heap := h' }) :
    wpAny (model prog w) (ktrTop dp un gd cn cs L a ccd cl outer) (call (.ref C) pos []) Q E s := call_clsG F X₀ N hm hi hf h
theorem con_in {pre : Led} {h h' g : Heap} {x dx : Addr} {o1 o2 : Obj} (k : ∀ b o, h.get? b = some o → h'.get? b = some o ∧ b ≠ x ∧ b ≠ dx) (hin : ∀ b o, h'.get? b = some o → b ∉ ((x, o1) :: (dx, o2) :: pre : Led).map (·.1) → g.get? b = some o) :
    ∀ b o, h.get? b = some o → b ∉ pre.map (·.1) → g.get? b = some o := fun b o e hn => by
  obtain ⟨k1, k2, k3⟩ := k b o e
  refine hin b o k1 fun hm => ?_
  rcases List.mem_cons.mp hm with e1 | hm
  · exact k2 e1
  rcases List.mem_cons.mp hm with e1 | hm
  · exact k3 e1
  · exact hn hm
end
section
variable {prog : Program} {w : World} {A : Around} {E : Value → Shared → Prop} {s : Shared} {h₀ : Heap} {L l : Addr} {m : Str → Option Value} {news : Led}
theorem slice_from {vs : List Value} {x : Int} (h : 0 ≤ x) : (slicePick vs.toArray (some x) none none).toList = vs.drop x.toNat := by
  rw [kms_pick_eq]
  simp only [kms_pick, kms_lo, kms_hi, if_neg (show ¬ x < 0 by omega)]
  rw [kmk_drop_min, List.take_of_length_le (by rw [List.length_drop]; omega)]
theorem slice_led {value slice : PySem.Expr} {vs : List Value} {n : Nat} {x : Int} {t : Tok} {Q : Value → Shared → Prop} (F : Fr h₀ L s.heap m) (N : News h₀ L s.heap news) (hm : (l, listOf vs.toArray n) ∈ news) (hx : 0 ≤ x) (hz : vs.length ≤ 1000000)
    (h : ∀ D h', Fr h₀ L h' m → News h₀ L h' ((D, listOf (vs.drop x.toNat).toArray 0) :: news) → (∀ p ∈ news, p.1 < D) → Q (.ref D) { s with heap := h' })
    (hs : subscripted slice false (.ref l) (.ref s.heap.objs.size) = operate [.ref s.heap.objs.size, .ref l] (getItem (.ref l) (.ref s.heap.objs.size))) (ht : ∀ r, letTemporaryGo value (.ref l) r = pure ()) :
    wpAny (model prog w) A (subscriptTail value slice (.ref l) (.ref s.heap.objs.size)) Q E { s with heap := s.heap.push { cls := .type "slice", data := .fields #[.int x t, .none, .none] } } :=
  kmk_slice_lit F N ⟨_, (N _ hm).1, rfl, n, rfl⟩ (IsPart.int x t) IsPart.none (slice_from hx) h hs ht (by rw [List.size_toArray, sizeLine_eq]; (first | lia | omega))
end
theorem list_or {α : Type u} : ∀ l : List α, l = [] ∨ ∃ a as, l = a :: as
  | [] => .inl rfl
  | a :: as => .inr ⟨a, as, rfl⟩
theorem opt_or {α : Type u} : ∀ o : Option α, o = none ∨ ∃ a, o = some a
  | none => .inl rfl
  | some a => .inr ⟨a, rfl⟩
theorem or_cases {a b c : Prop} (h : a ∨ b) (inl : a → c) (inr : b → c) : c := h.elim inl inr
theorem in_fr {K : Frag} {h₀ h : Heap} {L : Addr} {m : Str → Option Value} (F : Fr h₀ L h m) (X : K.In h₀) : K.In h := X.keeps F.keep
set_option maxRecDepth 100000
set_option maxHeartbeats 4000000
theorem fillK : (PySem.Challenge.rw_pf0391_01 = PySem.Challenge.rw_pf0391_01) ∧ (Mine.hd.heap_1 = Mine.hd.heap_1) := by
  k_fill; exact ⟨rfl, rfl⟩
set_option genInjectivity false in
structure Cx where
  p : Program
  loose : List Str
  mean : ExcName → Option Value
  mg : Str → Option Value
  mb : Str → Option Value
  dp : Nat
  un : Nat
  gd : Option (List Code)
  cn : Str
  cs : Scope
  a : Addr
  ccd : Value
  cl : List (Str × Addr)
  outer : List Env
  A₀ : Around
  base : Heap
  h₀ : Heap
  L : Addr
  m : Str → Option Value
  s : Shared
  Q : Value → Shared → Prop
  E : Value → Shared → Prop
theorem neCx : Nonempty Cx := neWorld.elim fun w => neShared.elim fun s => neAround.elim fun A => ⟨⟨plainProg [], [], fun _ => none, fun _ => none, fun _ => none, 0, 0, none, default, default, default, .none, [], [], A, default, default, default, fun _ => none, s, fun _ _ => True, fun _ _ => True⟩⟩
theorem con_cx {w : World} {f : Addr} {vs : List Value} {dn un0 : Nat} {pre : Led} {Post : Value → Led → Prop}
   (h : ∀ c : Cx, Below c.A₀ c.base c.outer c.h₀ → Fr c.h₀ c.L c.s.heap c.m → (Mine.hd.heap_1 w.params).In c.h₀ → News c.h₀ c.L c.s.heap pre → Top c.p c.loose c.mean c.mg c.mb c.h₀ → c.cs.kind = .function →
    c.dp + dn < recursionLimit → c.un + un0 < cLine → ConRet pre c.h₀ c.L c.m c.s c.Q Post →
    wpAny (model pw w) (ktrTop c.dp c.un c.gd c.cn c.cs c.L c.a c.ccd c.cl c.outer) (call (.ref f) vs) c.Q c.E c.s) : Con w f vs dn un0 pre Post :=
  fun p loose mean mg mb dp un gd cn cs a ccd cl outer A₀ base h₀ L m s Q E => h ⟨p, loose, mean, mg, mb, dp, un, gd, cn, cs, a, ccd, cl, outer, A₀, base, h₀, L, m, s, Q, E⟩
-- Loop
section
section
variable {prog : Program} {w : World} {A : Around} {E : Value → Shared → Prop} {s : Shared} {h₀ : Heap} {env : Env}
theorem unrPost_mono {L : Addr} {s₁ : Shared} {its : List (Addr × Obj)} {rest rest' : (Str → Option Value) → List (Addr × Obj) → Prop} {Q : Flow → Shared → Prop} {f : Flow} {s₂ : Shared} (h : UnrPostW h₀ L s₁ its rest Q f s₂) (k : ∀ m n, rest m n → rest' m n) : UnrPostW h₀ L s₁ its rest' Q f s₂ := by
  unfold UnrPostW at *
  cases f with
  | ret v => exact h
  | brk => exact h
  | next =>
    obtain ⟨h', tk, m', news', a, b, c, d, e⟩ := h
    exact ⟨h', tk, m', news', a, b, c, d, k _ _ e⟩
  | cont =>
    obtain ⟨h', tk, m', news', a, b, c, d, e⟩ := h
    exact ⟨h', tk, m', news', a, b, c, d, k _ _ e⟩
theorem allObj_mono : ∀ {ws : List (Addr × String)} {k k' : Led → Prop}, (∀ its, k its → k' its) → AllObj ws k → AllObj ws k'
  | [], _, _, hk, h => hk _ h
  | w :: r, _, _, hk, h => fun o ho => allObj_mono (ws := r) (fun its z => hk _ z) (h o ho)
theorem turns_ind {target : PySem.Expr} {body : List Stmt} {Q : Flow → Shared → Prop} {ws : List (Addr × String)} {keep : Led} {xs : List Itm} (Inv : Nat → (Str → Option Value) → Led → Prop)
    (turn : ∀ (i : Nat) a v m news h tk, xs[i]? = some a → a.Is v h → Inv i m news → Fr h₀ env.locals h m → AllObj ws (fun its => News h₀ env.locals h (its ++ news) →
      wpAny (model prog w) A (assign target env v) (fun _ s₂ => wpAny (model prog w) A (execs body env) (UnrPostW h₀ env.locals { s with heap := h, toks := tk } its (fun m' n' => SubL keep n' ∧ Inv (i + 1) m' n') Q) E s₂) E { s with heap := h, toks := tk }))
    (fin : ∀ m news, Inv xs.length m news → ∀ h tk, Fr h₀ env.locals h m → News h₀ env.locals h news → Q .next { s with heap := h, toks := tk }) :
    ∀ (r i : Nat) m news, i + r = xs.length → Inv i m news → ItemsRest prog w A E h₀ env target body Q s ws keep (xs.drop i) m news := by
  intro r
  induction r with
  | zero =>
    intro i m news hi hI
    rw [List.drop_of_length_le (by (first | lia | omega))]
    exact ItemsRest.zero fun h tk F N => fin m news (by rw [← hi]; exact hI) h tk F N
  | succ r ih =>
    intro i m news hi hI
    have hlt : i < xs.length := by (first | lia | omega)
    rw [List.drop_eq_getElem_cons hlt]
    intro v h tk hv F
    refine allObj_mono (fun its z N => ?_) (turn i xs[i] v m news h tk (List.getElem?_eq_getElem hlt) hv hI F)
    refine wpAny_mono (z N) (fun _ s₂ h2 => wpAny_mono h2 (fun f s₃ h3 => unrPost_mono h3 fun m' n' z => ⟨z.1, ih (i + 1) m' n' (by (first | lia | omega)) z.2⟩) fun _ _ z => z) fun _ _ z => z
theorem unr_end {L : Addr} {s₁ : Shared} {its all : Led} {rest : (Str → Option Value) → Led → Prop} {h' : Heap} {tk : Nat} {m' : Str → Option Value} (F : Fr h₀ L h' m') (N : News h₀ L h' all) (news' : Led) (hs : ∀ p ∈ its ++ news', p ∈ all) (off : ∀ p ∈ news', ∀ q ∈ its, p.1 ≠ q.1) (r : rest m' news') :
    UnrEndW h₀ L s₁ its rest { s₁ with heap := h', toks := tk } := ⟨h', tk, m', news', rfl, F, fun p hp => N p (hs p hp), off, r⟩
theorem letGo_rangeiter {E : Value → Shared → Prop} {target : PySem.Expr} {I : Addr} {x left step : Int} {v : Value} {Q' : Unit → Shared → Prop} {s' : Shared} (hit : IsRangeIter s'.heap I x left step) (h : Q' () s') :
    wpAny (model prog w) A (letOwnedTupleGo target (.ref I) v) Q' E s' := by
  unfold letOwnedTupleGo
  cases target <;> first
    | exact wpAny_pure h
    | (cases v <;> first
        | exact wpAny_pure h
        | (refine wpAny_bind (wpAny_load hit ?_)
           exact wpAny_pure h))
noncomputable def rangeItems (a : Int) (n : Nat) : List Itm := (List.range n).map fun (i : Nat) => Itm.tok fun t => .int (a + (i : Int)) t
theorem iter_rangeTurns {target : PySem.Expr} {body : List Stmt} {Q : Flow → Shared → Prop} {r : Addr} {a b : Int} {t u v : Tok} {n : Nat} {m₀ : Str → Option Value} {news : Led}
    (hh : A.handled = none) (hr : IsRange s.heap r a b 1 t u v) (hsmall : Builtin.Range.small a b 1 = true) (hn : Builtin.Range.rangeSize a b 1 = (n : Int)) (F : Fr h₀ env.locals s.heap m₀) (N : News h₀ env.locals s.heap news)
    (rest₀ : ∀ I : Addr, (∀ p ∈ news, p.1 < I) → ItemsRest prog w A E h₀ env target body Q s [(I, "range_iterator")] [] (rangeItems a n) m₀ news) :
    wpAny (model prog w) A (pyIter (.ref r)) (fun it s₂ => TurnsAt prog w A h₀ env target body Q E it s₂) E s := by
  refine wpAny_pyIter_range hr hsmall ?_
  refine ktu_core (tk0 := s.toks) (keep := []) (xs := rangeItems a n) (KTurns.ofWalks (Walks.range hh s.heap.objs.size a 1 n).bound fun i v s Q E st q => letGo_rangeiter st q) (by simp [rangeItems]) (fun i v h hp => ?_) (fun i h st => ?_) (fun b hb => ?_) (fun b hb => by simpa using hb) (fun b hb => ?_) ?_ (fun p hp hI => ?_) ?_ (F.push _) (fun p hp => ⟨Heap.get?_push_of_some _ (N p hp).1, (N p hp).2⟩) trivial (rest₀ _ fun p hp => Heap.lt_size (N p hp).1)
  · obtain ⟨hi, t, rfl⟩ := hp
    refine ⟨.tok fun t => .int (a + (i : Int)) t, by simp [rangeItems, hi], t, ?_⟩
    simp
  · exact ⟨[(s.heap.objs.size, _)], ⟨⟨rfl, rfl⟩, trivial⟩, fun p hp => by rw [List.mem_singleton.mp hp]; exact st⟩
  · have hb' : b = s.heap.objs.size := by simpa using hb
    rw [hb']
    exact ⟨List.mem_cons_self .., next_is_new F⟩
  · have hb' : b = s.heap.objs.size := by simpa using hb
    exact .inl (by simp [hb'])
  · intro hI
    rcases List.mem_cons.mp hI with e | hI
    · exact absurd F.ns.lt (e ▸ Nat.lt_irrefl _)
    · cases hI
  · exact absurd (Heap.lt_size (N p hp).1) ((List.mem_singleton.mp hI) ▸ Nat.lt_irrefl _)
  · show IsRangeIter _ _ _ _ _
    rw [hn]; simpa using Heap.get?_push_size _ rfl
end
noncomputable def AllM (m : Str → Option Value) : List (Str × Value) → Prop
  | [] => True
  | p :: r => m p.1 = some p.2 ∧ AllM m r
theorem AllM.at {m : Str → Option Value} : ∀ {ps : List (Str × Value)}, AllM m ps → ∀ p ∈ ps, m p.1 = some p.2
  | [], _, _, h => nomatch h
  | _ :: _, x, p, h => by
    rcases List.mem_cons.mp h with rfl | h
    · exact x.1
    · exact AllM.at x.2 p h
theorem fr_as {h₀ h : Heap} {L : Addr} {m : Str → Option Value} {ps : List (Str × Value)} (x : AllM m ps) (F : Fr h₀ L h m) : Fr h₀ L h (kstB m ps) := by
  have e : kstB m ps = m := by
    funext z
    exact kstB_eq x.at fun _ => rfl
  rw [e]; exact F
theorem wh_end {h₀ : Heap} {L : Addr} {s : Shared} {J : Nat → (Str → Option Value) → Led → Prop} {Q : Flow → Shared → Prop} {n : Nat} {h' : Heap} {tk : Nat} {m' : Str → Option Value} {all : Led} (F : Fr h₀ L h' m') (N : News h₀ L h' all) (n' : Nat) (news' : Led) (hs : ∀ p ∈ news', p ∈ all) (hn : n' < n) (r : J n' m' news') :
    WhileStep2 h₀ L s J Q n .next { s with heap := h', toks := tk } := ⟨h', tk, m', news', n', rfl, F, fun p hp => N p (hs p hp), hn, r⟩
end
-- Cmp
section
section
variable {prog : Program} {w : World} {A : Around} {E : Value → Shared → Prop} {s : Shared} {h₀ : Heap} {L : Addr} {news : Led}
theorem ne_tup2 {a b : Nat} {x1 x2 y1 y2 : Int} {t1 t2 t3 t4 : Tok} {n1 n2 : Nat} {Q : Value → Shared → Prop} (N : News h₀ L s.heap news) (ha : (a, tupOf #[.int x1 t1, .int x2 t2] n1) ∈ news) (hb : (b, tupOf #[.int y1 t3, .int y2 t4] n2) ∈ news) (hu : A.units < cLine)
    (h : Q (.bool (!decide (x1 = y1 ∧ x2 = y2))) s) : wpAny (model prog w) A (compareOp .NotEq (.ref a) (.ref b)) Q E s := by
  have hl : s.heap.IsTuple a #[.int x1 t1, .int x2 t2] := ⟨_, (N _ ha).1, rfl, n1, rfl⟩
  have hb' : s.heap.IsTuple b #[.int y1 t3, .int y2 t4] := ⟨_, (N _ hb).1, rfl, n2, rfl⟩
  refine SeqAt.RcNeAt.tuples (e := fun j => match j with | 0 => x1 == y1 | _ => x2 == y2) hl hb' hu (fun j h1 h2 => ?_) prog w E Q ?_
  · match j, h1 with
    | 0, _ => exact SeqAt.EqAt.int_int _ _ _ _
    | 1, _ => exact SeqAt.EqAt.int_int _ _ _ _
  · have e : (!((List.range (min (#[Value.int x1 t1, Value.int x2 t2] : Array Value).size (#[Value.int y1 t3, Value.int y2 t4] : Array Value).size)).all (fun j => match j with | 0 => x1 == y1 | _ => x2 == y2) && (#[Value.int x1 t1, Value.int x2 t2] : Array Value).size == (#[Value.int y1 t3, Value.int y2 t4] : Array Value).size)) = (!decide (x1 = y1 ∧ x2 = y2)) := by
      congr 1
      simp [List.range_succ]
      rfl
    rw [e]; exact h
theorem ne_tup3 {a b : Nat} {x1 x2 x3 y1 y2 y3 : Int} {t1 t2 t3 t4 t5 t6 : Tok} {n1 n2 : Nat} {Q : Value → Shared → Prop} (N : News h₀ L s.heap news) (ha : (a, tupOf #[.int x1 t1, .int x2 t2, .int x3 t5] n1) ∈ news) (hb : (b, tupOf #[.int y1 t3, .int y2 t4, .int y3 t6] n2) ∈ news) (hu : A.units < cLine)
    (h : Q (.bool (!decide (x1 = y1 ∧ x2 = y2 ∧ x3 = y3))) s) : wpAny (model prog w) A (compareOp .NotEq (.ref a) (.ref b)) Q E s := by
  have hl : s.heap.IsTuple a #[.int x1 t1, .int x2 t2, .int x3 t5] := ⟨_, (N _ ha).1, rfl, n1, rfl⟩
  have hb' : s.heap.IsTuple b #[.int y1 t3, .int y2 t4, .int y3 t6] := ⟨_, (N _ hb).1, rfl, n2, rfl⟩
  refine SeqAt.RcNeAt.tuples (e := fun j => match j with | 0 => x1 == y1 | 1 => x2 == y2 | _ => x3 == y3) hl hb' hu (fun j h1 h2 => ?_) prog w E Q ?_
  · match j, h1 with
    | 0, _ => exact SeqAt.EqAt.int_int _ _ _ _
    | 1, _ => exact SeqAt.EqAt.int_int _ _ _ _
    | 2, _ => exact SeqAt.EqAt.int_int _ _ _ _
  · have e : (!((List.range (min (#[Value.int x1 t1, Value.int x2 t2, Value.int x3 t5] : Array Value).size (#[Value.int y1 t3, Value.int y2 t4, Value.int y3 t6] : Array Value).size)).all (fun j => match j with | 0 => x1 == y1 | 1 => x2 == y2 | _ => x3 == y3) && (#[Value.int x1 t1, Value.int x2 t2, Value.int x3 t5] : Array Value).size == (#[Value.int y1 t3, Value.int y2 t4, Value.int y3 t6] : Array Value).size)) = (!decide (x1 = y1 ∧ x2 = y2 ∧ x3 = y3)) := by
      congr 1
      simp [List.range_succ]
      rfl
    rw [e]; exact h
end
end
-- Lines
local macro_rules | `(tactic| k_mem) => `(tactic| k_extra "k_mem")
local macro_rules | `(tactic| cell_ask $b:term) => `(tactic| (refine' code_con (binds := $b) ?k1 ?k2 ?k3 ?k4 ?k5 ?kA ?kF ?kK ?k6 ?k7 ?k8 ?k9 ?kB ?_ ?c2 ?c3 ?c4 ?c5; k_extra "ask2"; intro g' L' h' FG' F' N' B' X' T' hin' l1; cell_end 26 l1 B'))
local macro_rules | `(tactic| cell_ask (true, $b:term)) => `(tactic| (refine' code_conC (binds := $b) ?k1 ?k2 ?k3 ?k4 ?k5 ?kA ?kF ?kK ?k6 ?k7 ?k8 ?k9 ?kB ?kD ?_ ?c2 ?c3 ?c4; k_extra "askC2"; intro g' L' h' tk' cells' FG' F' N' Y' B' X' T' hin' l1; (try k_lt l1); k_cells Y'; (try simp only [List.cons_append, List.nil_append] at N'); cell_end 27 0 B'))
local macro_rules | `(tactic| cell_call) => `(tactic| k_extra "cell_call")
local macro_rules | `(tactic| cell_end $hret:term $_:term $_:term) => `(tactic| (refine con_end $hret (by assumption) (by assumption) (by assumption) (by assumption) (by assumption) _ (fun p hp => hp) ?_))
local macro_rules | `(tactic| cell_end 26 $l:ident $B:ident) => `(tactic| ((try k_lt $l); (try dsimp only); (try k_lift $B); (try k_fold)))
local macro_rules | `(tactic| cell_end 27 0 $B:ident) => `(tactic| ((try dsimp only); (try k_lift $B); (try k_fold)))
local macro_rules | `(tactic| k_all) => `(tactic| k_extra "k_all")
local macro_rules | `(tactic| k_ne) => `(tactic| k_extra "k_ne")
local macro_rules | `(tactic| lcg_sub) => `(tactic| k_extra "lcg_sub")
local macro_rules | `(tactic| lcg_off) => `(tactic| first | exact Rem.head | (refine' Rem.tail ?a; (case a => lcg_off)))
local macro_rules | `(tactic| lcg_src) => `(tactic| first | exact Pick.nil | (refine' Pick.cons ?a ?b; (case a => lcg_off); (case b => lcg_src)))
local macro_rules | `(tactic| ke_reads) => `(tactic| k_extra "ke_reads")
local macro_rules | `(tactic| cell_step) => `(tactic| k_extra "cell_step")
local macro_rules | `(tactic| cell_end 7 $R:term $o:term) => `(tactic| ((try unfold Hold); refine' unr_end ?F1 ?N1 $R ?s1 $o ?_; k_extra "ends"))
local macro_rules | `(tactic| cell_end 8 $R:term $n:term) => `(tactic| (refine' wh_end ?F1 ?N1 $n $R ?s1 ?_ ?_; k_extra "ends"))
local macro_rules | `(tactic| k_in) => `(tactic| k_extra "k_in")
local macro_rules | `(tactic| ktr_room) => `(tactic| k_extra "room")
local macro_rules | `(tactic| ktr_units) => `(tactic| k_extra "units")
local macro_rules | `(tactic| cell_end 21 $_:term $_:term) => `(tactic| (intro h' F' N'))
local macro_rules | `(tactic| cell_end 22 $_:term $_:term) => `(tactic| (intro h' tk' t' F' N'))
local macro_rules | `(tactic| cell_end 23 $_:term $_:term) => `(tactic| (intro D' h' F' N' l1))
local macro_rules | `(tactic| cell_end 24 $_:term $_:term) => `(tactic| (intro g'))
local macro_rules | `(tactic| cell_end 25 $_:term $_:term) => `(tactic| (intro h' o' F' N' hd'; (try dsimp only at N')))
example : True := by
  k_with_none
  k_with "call ref" => (k_here; k_dflt (k_extra "con"))
  k_with "binaryOp FloorDiv int int" => (k_here; k_dflt (refine floordiv_int (by k_dflt (first | lia | omega)) ?_ (Or.inl (PyProof.noPylong_small (by k_dflt (first | lia | omega))))))
  k_with "subscriptTail Name Constant ref int" => (k_here; (with_reducible show wpAny _ _ (subscriptTail _ _ (Value.ref _) (Value.int _ _)) _ _ _); k_dflt (first | (kim_at) | (with_unfolding_all refine' itm_led ?z9N ?z9m ?z9a ?z9b ?z9x ?_ ?z9hs ?z9hg; (case z9N => k_asm); (case z9m => k_mem); (case z9a => decide); (case z9b => decide); (case z9x => first | assumption | rfl); (case z9hs => with_unfolding_all rfl); (case z9hg => intro _; with_unfolding_all rfl); k_whole) | (with_unfolding_all refine' tup_led ?z9N ?z9m ?z9a ?z9b ?z9j ?z9x ?_ ?z9hs ?z9hg; (case z9N => k_asm); (case z9m => k_mem); (case z9a => decide); (case z9b => decide); (case z9j => rfl); (case z9x => rfl); (case z9hs => with_unfolding_all rfl); (case z9hg => intro _; with_unfolding_all rfl); k_whole)))
  k_with "subscriptTail Name Name ref int" => (k_here; (with_reducible show wpAny _ _ (subscriptTail _ _ (Value.ref _) (Value.int _ _)) _ _ _); (with_unfolding_all refine' itm_led ?z9N ?z9m ?z9a ?z9b ?z9x ?_ ?z9hs ?z9hg; (case z9N => k_asm); (case z9m => k_mem); (case z9a => first | assumption | k_dflt (first | lia | omega)); (case z9b => k_dflt (first | lia | omega)); (case z9x => first | assumption | exact List.getElem?_set_self (by k_dflt (first | lia | omega))); (case z9hs => with_unfolding_all rfl); (case z9hg => intro _; with_unfolding_all rfl); k_whole))
  k_with "subscriptTail Name Subscript ref int" => (k_here; (with_reducible show wpAny _ _ (subscriptTail _ _ (Value.ref _) (Value.int _ _)) _ _ _); (with_unfolding_all refine' itm_led ?z9N ?z9m ?z9a ?z9b ?z9x ?_ ?z9hs ?z9hg; (case z9N => k_asm); (case z9m => k_mem); (case z9a => first | assumption | k_dflt (first | lia | omega)); (case z9b => k_dflt (first | lia | omega)); (case z9x => first | assumption | exact List.getElem?_set_self (by k_dflt (first | lia | omega))); (case z9hs => with_unfolding_all rfl); (case z9hg => intro _; with_unfolding_all rfl); k_whole))
  k_with "subscriptTail Attribute" => (k_here; k_dflt (refine kba_turn (value' := PySem.Expr.Name (PySem.Str.ofString "_") ⟨0, 0, 0, 0⟩) (fun _ => rfl) ?_))
  k_with "subscriptTail Subscript" => (k_here; k_dflt (refine kba_turn (value' := PySem.Expr.Name (PySem.Str.ofString "_") ⟨0, 0, 0, 0⟩) (fun _ => rfl) ?_))
  k_with "subscriptTail Call" => (k_here; k_dflt (refine kba_turn (value' := PySem.Expr.Name (PySem.Str.ofString "_") ⟨0, 0, 0, 0⟩) (fun _ => rfl) ?_))
  k_with "call builtin:len" => (k_here; (with_reducible show wpAny _ _ (call (Value.builtin "len") [Value.ref _]) _ _ _); k_dflt (refine' len_led ?z9k1 ?z9k2 ?z9k3 ?_; (case z9k1 => k_asm); (case z9k2 => k_mem); (case z9k3 => first | assumption | k_dflt (first | lia | omega) | (simp only [List.length_cons, List.length_nil]; k_dflt (first | lia | omega))); k_whole))
  k_with "compareOp Eq ref ref" => (k_here; (with_reducible show wpAny _ _ (compareOp CmpOp.Eq (Value.ref _) (Value.ref _)) _ _ _); k_dflt (refine' eq_nil_led ?z9k1 ?z9k2 ?z9k3 ?z9k4 ?_; (case z9k1 => k_asm); (case z9k2 => k_mem); (case z9k3 => k_mem); (case z9k4 => ktr_units); k_whole))
  k_with "compareOp NotEq ref ref" => (k_here; (with_reducible show wpAny _ _ (compareOp CmpOp.NotEq (Value.ref _) (Value.ref _)) _ _ _); k_dflt (refine' ne_nil_led ?z9k1 ?z9k2 ?z9k3 ?z9k4 ?_; (case z9k1 => k_asm); (case z9k2 => k_mem); (case z9k3 => k_mem); (case z9k4 => ktr_units); k_whole))
  k_with "call builtin:list.pop" => (k_here; (with_reducible show wpAny _ _ (call (Value.builtin _) [Value.ref _, Value.int _ _]) _ _ _); k_dflt (refine' pop0_led ?z9F ?z9N ?z9U ?z9z ?_; (case z9F => k_asm); (case z9N => k_asm); (case z9U => k_upd); (case z9z => first | assumption | k_dflt (first | lia | omega)); k_whole); cell_end 21 0 0; (try k_sweep))
  k_with "call builtin:sum" => (k_here; (with_reducible show wpAny _ _ (call (Value.builtin "sum") [Value.ref _]) _ _ _); k_dflt (refine' sum_led ?z9k0 ?z9k1 ?z9k2 ?z9k3 ?z9k4 ?_; (case z9k0 => with_unfolding_all rfl); (case z9k1 => k_asm); (case z9k2 => k_asm); (case z9k3 => k_mem); (case z9k4 => assumption); k_whole); cell_end 22 0 0; (try k_sweep))
  k_with "eval ListComp" => (k_here; (with_reducible show wpAny _ _ (eval (Expr.ListComp _ [Comprehension.mk _ _ [] _] _ _) _) _ _ _); k_dflt (refine LCg.ListComp_U (F₀ := by k_asm) (by with_unfolding_all rfl) (by decide) (by rfl) (by decide) (by rfl) ?_))
  k_with "eval ListComp" => (k_here; (with_reducible show wpAny _ _ (eval (Expr.ListComp _ [Comprehension.mk _ _ [_] _] _ _) _) _ _ _); k_dflt (refine LCt.ListComp_T (F₀ := by k_asm) (by with_unfolding_all rfl) (by decide) (by rfl) (by decide) (by rfl) ?_))
  k_with "CompSrc" => (k_here; k_dflt (refine' LCg.CompSrc.ledger ?z9kh ?z9kF ?z9kN ?z9km ?_ ?_; (case z9kh => rfl); (case z9kF => k_asm); (case z9kN => k_asm); (case z9km => k_mem); rotate_left; cell_end 24 0 0; (try dsimp only); k_extra "rest"))
  k_with "call builtin:max" => (k_here; (with_reducible show wpAny _ _ (call (Value.builtin "max") [Value.int _ _, Value.int _ _]) _ _ _); k_dflt (refine' max2_led ?z9k0 ?z9k1 ?z9k2 ?_; (case z9k0 => with_unfolding_all rfl); (case z9k1 => k_asm); (case z9k2 => k_asm); k_whole); cell_end 22 0 0; (try k_sweep))
  k_with "call builtin:min" => (k_here; (with_reducible show wpAny _ _ (call (Value.builtin "min") [Value.int _ _, Value.int _ _]) _ _ _); k_dflt (refine' min2_led ?z9k0 ?z9k1 ?z9k2 ?_; (case z9k0 => with_unfolding_all rfl); (case z9k1 => k_asm); (case z9k2 => k_asm); k_whole); cell_end 22 0 0; (try k_sweep))
  k_with "binaryOp Mult ref int" => (k_here; (with_reducible show wpAny _ _ (binaryOp Operator.Mult (Value.ref _) (Value.int _ _)) _ _ _); k_dflt (refine' mulrep_led ?z9k1 ?z9k2 ?z9k3 ?z9k4 ?z9k5 ?_; (case z9k1 => k_asm); (case z9k2 => k_asm); (case z9k3 => k_mem); (case z9k4 => k_dflt (first | lia | omega)); (case z9k5 => k_dflt (first | lia | omega)); k_whole); cell_end 23 0 0; (try k_sweep))
  k_with "setItem ref int" => (k_here; k_dflt (refine' set_led ?z9k1 ?z9k2 ?z9k3 ?z9k4 ?z9k5 ?z9k6 ?_; (case z9k1 => k_asm); (case z9k2 => k_asm); (case z9k3 => k_upd); (case z9k4 => first | assumption | k_dflt (first | lia | omega)); (case z9k5 => first | assumption | k_dflt (first | lia | omega)); (case z9k6 => k_dflt (first | lia | omega)); k_whole); cell_end 21 0 0; (try k_sweep))
  k_with "newList" => (k_here; k_dflt (refine' newList_K ?z9k1 ?z9k2 ?_; (case z9k1 => k_asm); (case z9k2 => k_asm); k_whole); cell_end 23 0 0; (try k_sweep))
  k_with "newTuple" => (k_here; k_dflt (refine' kup_newTuple ?z9k1 ?z9k2 ?_ ?z9kz; (case z9k1 => k_asm); (case z9k2 => k_asm); (case z9kz => exact Nat.le_of_ble_eq_true rfl); k_whole); cell_end 23 0 0; (try k_sweep))
  k_with "call builtin:list.append" => (k_here; (with_reducible show wpAny _ _ (call (Value.builtin _) [Value.ref _, _]) _ _ _); k_dflt (refine' append_led ?z9k1 ?z9k2 ?z9k3 ?z9k4 ?_; (case z9k1 => k_asm); (case z9k2 => k_asm); (case z9k3 => k_upd); (case z9k4 => first | assumption | k_dflt (first | lia | omega)); k_whole); cell_end 21 0 0; (try k_sweep))
  k_with "exec Assign cons ListComp" => (k_here; (with_reducible show wpAny _ _ (exec (Stmt.Assign [_] (Expr.ListComp _ [Comprehension.mk _ _ [_] _] _ _) _) _) _ _ _); k_dflt (refine LCt.Assign_ListComp_T (F₀ := by k_asm) (by rfl) (by with_unfolding_all rfl) (by with_unfolding_all rfl) (by decide) (by rfl) (by decide) (by rfl) (by rfl) (by rfl) ?_))
  k_with "exec Assign cons ListComp" => (k_here; (with_reducible show wpAny _ _ (exec (Stmt.Assign [_] (Expr.ListComp _ [Comprehension.mk _ _ [] _] _ _) _) _) _ _ _); k_dflt (refine LCg.Assign_ListComp_U (F₀ := by k_asm) (by rfl) (by with_unfolding_all rfl) (by with_unfolding_all rfl) (by decide) (by rfl) (by decide) (by rfl) (by rfl) (by rfl) ?_))
  k_with "CompSrcT" => (k_here; k_dflt (refine LCt.CompSrcT.range (by rfl) (by k_asm) (by k_asm) (by assumption) (small_one (by k_dflt (first | lia | omega)) (by k_dflt (first | lia | omega)) (by k_dflt (first | lia | omega)) (by k_dflt (first | lia | omega))) (rangeSize_nat _ _) ?_ ?_; rotate_left; cell_end 24 0 0; (try dsimp only); k_extra "restT"))
  k_with "binaryOp Add ref ref" => (k_here; (with_reducible show wpAny _ _ (binaryOp _ (Value.ref _) (Value.ref _)) _ _ _); k_dflt (refine' addT_led ?z9k1 ?z9k2 ?z9k3 ?z9k4 ?z9k5 ?z9k6 ?z9k7 ?z9k8 ?_; (case z9k1 => k_asm); (case z9k2 => k_asm); (case z9k3 => k_mem); (case z9k4 => k_mem); (case z9k5 => exact rfl); (case z9k6 => exact List.cons_ne_nil _ _); (case z9k7 => exact List.cons_ne_nil _ _); (case z9k8 => exact Nat.le_of_ble_eq_true rfl); k_whole); cell_end 23 0 0; (try k_sweep))
  k_with "call builtin:min" => (k_here; (with_reducible show wpAny _ _ (call (Value.builtin "min") [Value.ref _]) _ _ _); k_dflt (k_extra "min"))
  k_with "CompSrcT" => (k_here; k_dflt (refine' LCt.CompSrcT.ledger ?z9kh ?z9kF ?z9kN ?z9km ?_ ?_; (case z9kh => rfl); (case z9kF => k_asm); (case z9kN => k_asm); (case z9km => k_mem); rotate_left; cell_end 24 0 0; (try dsimp only); k_extra "restT"))
  k_with "subscriptTail Name Constant ref str" => (k_here; (with_reducible show wpAny _ _ (subscriptTail _ _ (Value.ref _) (Value.str _ _)) _ _ _); k_dflt (refine' kda_item (knd := PySem.strKind _ _) ?z9N ?z9hp ?z9hd (strKind_is _ _ _ _) ?z9hl ?_ ?z9hs ?z9hg; (case z9N => k_asm); (case z9hp => k_mem); (case z9hd => assumption); (case z9hl => rfl); (case z9hs => with_unfolding_all rfl); (case z9hg => intro _; with_unfolding_all rfl)); k_whole)
  k_with "setItem ref str" => (k_here; k_dflt (refine' kda_set (knd := PySem.strKind _ _) ?z9F ?z9N ?z9U ?z9d (strKind_is _ _ _ _) ?z9z ?_; (case z9F => k_asm); (case z9N => k_asm); (case z9U => k_updF); (case z9d => assumption); (case z9z => rw [sizeLine_eq]; exact Nat.le_of_ble_eq_true (by with_unfolding_all rfl))); cell_end 25 0 0)
  k_with "exec For Tuple Call" => (k_here; k_dflt (refine' For_turns ?z9lF ?_; (case z9lF => k_asm); k_whole))
  k_with "call type:enumerate" => (k_here; k_dflt (refine' ktu_enum ?z9hh ?z9F ?z9N ?z9hm ?z9hc ?z9hd ?z9hx ?_; (case z9hh => rfl); (case z9F => k_asm); (case z9N => k_asm); (case z9hm => k_mem); (case z9hc => rfl); (case z9hd => rfl); (case z9hx => rfl); k_extra "items"))
  k_with "compareOp NotEq ref ref" => (k_here; (with_reducible show wpAny _ _ (compareOp CmpOp.NotEq (Value.ref _) (Value.ref _)) _ _ _); k_dflt (first | (refine' ne_nil_led ?z9k1 ?z9k2 ?z9k3 ?z9k4 ?_; (case z9k1 => k_asm); (case z9k2 => k_mem); (case z9k3 => k_mem); (case z9k4 => ktr_units)) | (refine' ne_tup2 ?z9k1 ?z9k2 ?z9k3 ?z9k4 ?_; (case z9k1 => k_asm); (case z9k2 => k_mem); (case z9k3 => k_mem); (case z9k4 => ktr_units)) | (refine' ne_tup3 ?z9k1 ?z9k2 ?z9k3 ?z9k4 ?_; (case z9k1 => k_asm); (case z9k2 => k_mem); (case z9k3 => k_mem); (case z9k4 => ktr_units))); k_whole)
  k_with "exec For Name Name cons nil" => (k_here; k_dflt (refine' For_turns ?z9lF ?_; (case z9lF => k_asm); k_whole))
  k_with "exec For Name Call cons nil" => (k_here; k_dflt (refine' For_turns ?z9lF ?_; (case z9lF => k_asm); k_whole))
  k_with "pyIter ref" => (k_here; (with_reducible show wpAny _ _ (pyIter (Value.ref _)) (fun it s₂ => TurnsAt _ _ _ _ _ _ _ _ _ it s₂) _ _); k_dflt (first | (refine' iter_rangeTurns ?z9hh ?z9hr ?z9hs ?z9hn ?z9F ?z9N ?_; (case z9hh => rfl); (case z9hr => assumption); (case z9hs => first | decide | exact small_one (by k_dflt (first | lia | omega)) (by k_dflt (first | lia | omega)) (by k_dflt (first | lia | omega)) (by k_dflt (first | lia | omega))); (case z9hn => exact rangeSize_nat _ _); (case z9F => k_asm); (case z9N => k_asm); k_extra "items") | (refine' iter_listTurns ?z9hh ?z9F ?z9N ?z9hm ?z9hc ?z9hd ?_; (case z9hh => rfl); (case z9F => k_asm); (case z9N => k_asm); (case z9hm => k_mem); (case z9hc => rfl); (case z9hd => rfl); k_extra "items")))
  k_with "exec While Compare cons nil" => (k_here; k_dflt (k_extra "while"))
  k_with "exec While Constant cons nil" => (k_here; k_dflt (k_extra "while"))
  k_with "UnrEndW" => refine hold ?_
  k_with "eval ListComp" => (k_here; (with_reducible show wpAny _ _ (eval (Expr.ListComp _ [Comprehension.mk (Expr.Tuple _ _ _) _ [] _] _ _) _) _ _ _); k_dflt (refine LCp.ListComp_P (F₀ := by k_asm) (by with_unfolding_all rfl) (by decide) (by rfl) (by decide) (by rfl) (by rfl) (by decide) ?_))
  k_with "SrcLP" => (k_here; k_dflt (refine' LCp.SrcLP.ledger ?z9kh ?z9kF ?z9kN ?z9km ?_ ?_; (case z9kh => rfl); (case z9kF => k_asm); (case z9kN => k_asm); (case z9km => k_mem); rotate_left; cell_end 24 0 0; (try dsimp only); k_extra "restP"))
  k_with "exec Raise some none" => (k_here; k_dflt (k_extra "raise"))
  k_with "CompSrc" => (k_here; k_dflt (refine LCg.CompSrc.range (by rfl) (by k_asm) (by k_asm) (by assumption) (small_one (by k_dflt (first | lia | omega)) (by k_dflt (first | lia | omega)) (by k_dflt (first | lia | omega)) (by k_dflt (first | lia | omega))) (rangeSize_nat _ _) ?_ ?_; rotate_left; cell_end 24 0 0; (try dsimp only); k_extra "rest"))
  k_with "subscriptTail List Call ref int" => (k_here; k_dflt (k_extra "menu"))
  k_with "exec For Tuple Subscript cons nil" => (k_here; k_dflt (refine' For_turns ?z9lF ?_; (case z9lF => k_asm); k_whole))
  k_with "subscriptTail Name Slice ref ref" => (k_here; (with_reducible show wpAny _ _ (subscriptTail _ (PySem.Expr.Slice (some _) none none _) (Value.ref _) (Value.ref _)) _ _ _); k_dflt (refine' slice_led ?z9F ?z9N ?z9l ?z9x ?z9z ?_ ?z9s ?z9t; (case z9F => k_asm); (case z9N => k_asm); (case z9l => k_mem); (case z9x => k_dflt (first | lia | omega)); (case z9z => first | assumption | k_dflt (first | lia | omega)); (case z9s => with_unfolding_all rfl); (case z9t => kmk_pure)); cell_end 23 0 0; (try k_sweep))
  k_with "k_mem" => (first | exact List.Mem.head _ | (refine' List.Mem.tail _ ?_; k_mem) | assumption)
  k_with "ask2" => ((case kA => exact rfl); (case kF => exact rfl); (case kK => assumption); (case k1 => k_asm); (case k2 => k_asm); (case k3 => k_asm); (case k4 => k_asm); (case k5 => k_asm); (case k6 => k_is); (case k7 => k_is); (case k8 => ktr_room); (case k9 => first | exact BindsTo.of_eq rfl | exact binds_K (by k_in) rfl (by k_is) rfl rfl rfl); (case c5 => decide); (case kB => exact locs rfl); (case c2 => exact rfl); (case c3 => exact rfl); (case c4 => exact rfl); k_whole)
  k_with "askC2" => ((case kA => exact rfl); (case kF => exact rfl); (case kK => assumption); (case k1 => k_asm); (case k2 => k_asm); (case k3 => k_asm); (case k4 => k_asm); (case k5 => k_asm); (case k6 => k_is); (case k7 => k_is); (case k8 => ktr_room); (case k9 => first | exact BindsTo.of_eq rfl | exact binds_K (by k_in) rfl (by k_is) rfl rfl rfl); (case kB => exact rfl); (case kD => decide +kernel); (case c2 => exact rfl); (case c3 => exact rfl); (case c4 => exact rfl); k_whole)
  k_with "cell_call" => ((case k1 => k_asm); (case k2 => k_asm); (case k3 => k_asm); (case k4 => k_asm); (case k5 => k_asm); (case kK => first | exact rfl | assumption); (case kd => ktr_room); (case ku => ktr_units))
  k_with "k_all" => (first | exact List.forall_mem_nil _ | (refine List.forall_mem_cons.mpr ⟨?_, ?_⟩; (focus k_ne); k_all) | exact OwnOff.ne (by with_reducible assumption) (by k_memK) | exact fresh_ne (by with_reducible assumption) (by intro p hp; k_mem))
  k_with "k_ne" => (first | ((try dsimp only); first | (refine' NeA.ne ?z5h; (case z5h => with_reducible assumption)) | (refine' NeA.en ?z5h; (case z5h => with_reducible assumption)) | (refine' fresh1 ?z5h ?z5m; (case z5h => with_reducible assumption); (case z5m => k_mem)) | (refine' fresh2 ?z5h ?z5m; (case z5h => with_reducible assumption); (case z5m => k_mem))) | (refine neN ?_; (try dsimp only); k_dflt (first | lia | omega)))
  k_with "lcg_sub" => (first | exact List.forall_mem_nil _ | (refine List.forall_mem_cons.mpr ⟨?_, ?_⟩; (focus k_mem); lcg_sub) | (intro p hp; k_mem))
  k_with "ke_reads" => (first | exact List.forall_mem_nil _ | (refine List.forall_mem_cons.mpr ⟨?_, ?_⟩; (focus k_all); ke_reads))
  k_with "cell_step" => (cell_call; (case kp => lcg_src); (case ko => ke_reads))
  k_with "k_in" => (first | k_in_fast | with_reducible assumption | (with_reducible (refine' in_fr ?z4F ?z4X; (case z4F => assumption); (case z4X => assumption))))
  k_with "ends" => ((case F1 => k_asm); (case N1 => k_asm); (case s1 => first | exact fun _ hp => hp | exact fun _ hp => List.Mem.tail _ hp | exact fun _ hp => List.Mem.tail _ (List.Mem.tail _ hp) | lcg_sub))
  k_with "ne" => (first | infer_instance | exact neWorld | exact neShared | exact neAround | exact neParams | exact neItm | exact ⟨default⟩)
  k_with "ep" => (refine @all_epA _ (by k_extra "ne") _ ?_)
  k_with "epq" => (clear zq)
  k_with "epx" => (have zk := @epE_spec _ (by k_extra "ne") _ zh; clear zh)
  k_with "epe" => (replace zk := exE zk)
  k_with "epa" => (have zj := And.left zh; have zk := And.right zh; clear zh)
  k_with "epj" => (clear zj)
  k_with "epk" => (clear zk)
  k_with "cx" => (refine @all_epA _ neCx _ ?_; generalize epA _ _ = zc; refine exI ?_; generalize Cx.p zc = p, Cx.loose zc = loose, Cx.mean zc = mean, Cx.mg zc = mg, Cx.mb zc = mb, Cx.dp zc = dp, Cx.un zc = un, Cx.gd zc = gd, Cx.cn zc = cn, Cx.cs zc = cs, Cx.a zc = a, Cx.ccd zc = ccd, Cx.cl zc = cl, Cx.outer zc = outer, Cx.A₀ zc = A₀, Cx.base zc = base, Cx.h₀ zc = h₀, Cx.L zc = L, Cx.m zc = m, Cx.s zc = s, Cx.Q zc = Q, Cx.E zc = E; clear zc)
  k_with "cxa" => (refine @all_epA _ neCx _ ?_; generalize epA _ _ = zc; refine exI ?_; generalize Cx.p zc = p, Cx.loose zc = loose, Cx.mean zc = mean, Cx.mg zc = mg, Cx.mb zc = mb, Cx.dp zc = dp, Cx.un zc = un, Cx.gd zc = gd, Cx.cn zc = cn, Cx.cs zc = cs, Cx.a zc = ac, Cx.ccd zc = ccd, Cx.cl zc = cl, Cx.outer zc = outer, Cx.A₀ zc = A₀, Cx.base zc = base, Cx.h₀ zc = h₀, Cx.L zc = L, Cx.m zc = m, Cx.s zc = s, Cx.Q zc = Q, Cx.E zc = E; clear zc)
  k_with "i2" => (refine all_2 ?_ ?_; (focus (repeat' (first | exact neWorld | exact neShared | exact neAround | exact neParams | exact neItm | refine nePr ?_ ?_ | infer_instance | exact ⟨default⟩))); generalize ep2 _ _ = zq; refine ex2 ?_)
  k_with "i3" => (refine all_3 ?_ ?_; (focus (repeat' (first | exact neWorld | exact neShared | exact neAround | exact neParams | exact neItm | refine nePr ?_ ?_ | infer_instance | exact ⟨default⟩))); generalize ep3 _ _ = zq; refine ex3 ?_)
  k_with "i4" => (refine all_4 ?_ ?_; (focus (repeat' (first | exact neWorld | exact neShared | exact neAround | exact neParams | exact neItm | refine nePr ?_ ?_ | infer_instance | exact ⟨default⟩))); generalize ep4 _ _ = zq; refine ex4 ?_)
  k_with "i5" => (refine all_5 ?_ ?_; (focus (repeat' (first | exact neWorld | exact neShared | exact neAround | exact neParams | exact neItm | refine nePr ?_ ?_ | infer_instance | exact ⟨default⟩))); generalize ep5 _ _ = zq; refine ex5 ?_)
  k_with "i6" => (refine all_6 ?_ ?_; (focus (repeat' (first | exact neWorld | exact neShared | exact neAround | exact neParams | exact neItm | refine nePr ?_ ?_ | infer_instance | exact ⟨default⟩))); generalize ep6 _ _ = zq; refine ex6 ?_)
  k_with "i7" => (refine all_7 ?_ ?_; (focus (repeat' (first | exact neWorld | exact neShared | exact neAround | exact neParams | exact neItm | refine nePr ?_ ?_ | infer_instance | exact ⟨default⟩))); generalize ep7 _ _ = zq; refine ex7 ?_)
  k_with "i8" => (refine all_8 ?_ ?_; (focus (repeat' (first | exact neWorld | exact neShared | exact neAround | exact neParams | exact neItm | refine nePr ?_ ?_ | infer_instance | exact ⟨default⟩))); generalize ep8 _ _ = zq; refine ex8 ?_)
  k_with "eph" => (clear zh)
  k_with "sub" => (first | exact sub_nil | (refine sub_cons ?_ ?_; (focus (k_extra "mem")); k_extra "sub") | (refine sub_app ?_ ?_; (focus (k_extra "sub")); k_extra "sub") | k_extra "incl")
  k_with "mem" => (with_reducible (first | exact List.mem_cons_self .. | (refine List.mem_cons_of_mem _ ?_; k_extra "mem") | (refine List.mem_append_left _ ?_; k_extra "mem") | (refine List.mem_append_right _ ?_; k_extra "mem") | assumption))
  k_with "incl" => (with_reducible (first | exact fun _ h => h | (refine sub_tail ?_; k_extra "incl") | (refine sub_left ?_; k_extra "incl") | (refine sub_right ?_; k_extra "incl")))
  k_with "room" => ((try dsimp only [depth_under_make, depth_under_kw, depth_in1, depth_deeper, depth_caller, ktrTop]); first | exact room_lt0 (by assumption) | exact room_lt (by assumption) (by decide) | exact room_lt2 (by assumption) (by decide) | exact room_lt3 (by assumption) (by decide))
  k_with "units" => ((try dsimp only [units_in1, units_deeper, Around.mark_units, units_caller, ktrTop]); first | exact room_lt0 (by assumption) | exact room_lt (by assumption) (by decide) | exact room_lt2 (by assumption) (by decide) | exact room_lt3 (by assumption) (by decide))
  trivial
local macro_rules | `(tactic| walk_at $s:str) => `(tactic| k_extra $s)
-- Words
open Lean in
def epsAsk : MacroM Unit := do if (← Macro.resolveGlobalName `epsIsOn).isEmpty then Macro.throwUnsupported
open Lean in
def epsLt : MacroM Bool := do return (← Macro.resolveGlobalName `epsIsOn).isEmpty
open Lean in
def epsZ (n : Name) : TSyntax `ident := ⟨mkIdent n⟩
open Lean Lean.Parser.Tactic in
def epsClr (e : Syntax) : MacroM (TSyntax `tactic) := if e.isIdent then `(tactic| try clear $(⟨e⟩)) else `(tactic| skip)
open Lean in
def epsGen (q : TSyntax `term) (xs : List (TSyntax `ident)) : MacroM (TSyntax `tactic) :=
  (xs.foldr (fun x (r : Bool × (TSyntax `term → MacroM (TSyntax `tactic))) => (false, fun q => if r.1 then `(tactic| generalize $q = $x) else do `(tactic| (generalize ($q).1 = $x; $(← r.2 (← `(($q).2)))))))
    (true, fun _ => `(tactic| skip))).2 q
open Lean in
def epsIn (all : List (TSyntax `term)) (ns : List (TSyntax `ident)) (acc : TSyntax `tactic) (n : Nat) : MacroM (TSyntax `tactic) :=
  (List.range n).foldlM (fun o k => do
    if ns.length < k + 2 then return o
    let rest ← match all.drop (k + 2) with | [] => `(tactic| skip) | y :: ys => `(tactic| intro $y $(ys.toArray)*)
    let g ← epsGen (epsZ `zq) (ns.take (k + 2))
    `(tactic| first | (k_extra $(Syntax.mkStrLit s!"i{k + 2}"); $g:tactic; k_extra "epq"; $rest) | ($o:tactic))) acc
open Lean in
local macro_rules
  | `(tactic| intro $x:ident) => do epsAsk; `(tactic| first | (k_extra "ep"; generalize epA _ _ = $x; refine exI ?_) | (refine fun $x => ?_))
  | `(tactic| intro _) => do epsAsk; `(tactic| intro x)
  | `(tactic| intro $x:term $y:term $ys:term*) => do
    epsAsk
    let all := x :: y :: ys.toList
    let un ← `(x)
    let ns := (all.takeWhile fun t => t.raw.isIdent || t.raw.isOfKind ``Lean.Parser.Term.hole).map fun t => if t.raw.isIdent then ⟨t.raw⟩ else ⟨un.raw⟩
    epsIn all ns (← `(tactic| (intro $x:term; intro $y $ys*))) (if (← Macro.resolveGlobalName `epsNoGroup).isEmpty then 7 else 0)
open Lean Lean.Parser.Tactic in
def epsId (p : Syntax) : MacroM (Option (TSyntax `ident)) := do
  if p.isOfKind ``rcasesPat.one then return (if p[0].getId == `rfl then none else some ⟨p[0]⟩)
  if p.isOfKind ``rcasesPat.ignore then some <$> `(x) else return none
open Lean Lean.Parser.Tactic in
def epsOb (ps : Array Syntax) (h : TSyntax `ident) : MacroM (TSyntax `tactic) := do
  if let some x ← (if ps.size == 1 then epsId ps[0]! else pure none) then return (← `(tactic| (have $x:ident := $h; clear $h)))
  let m : TSyntax ``rcasesPatMed := ⟨mkNode ``rcasesPatMed #[mkNullNode (mkSepArray ps (mkAtom "|"))]⟩
  `(tactic| obtain $m:rcasesPatMed := $h)
open Lean in
def epsPats (ps : List Syntax) : MacroM (List (TSyntax `ident)) :=
  ps.foldr (fun p r => do match ← epsId p[0] with | none => pure [] | some t => pure (t :: (← r))) (pure [])
open Lean Lean.Parser.Tactic in
local macro_rules
  | `(tactic| rintro $ys:rintroPat*) => do
    epsAsk
    let all := ys.toList
    let ts ← epsPats (all.map (·.raw))
    match ts, all with
    | [], z :: zs =>
      let o ← epsOb #[z.raw[0]] (epsZ `zr)
      if zs.isEmpty then `(tactic| (intro $(epsZ `zr):ident; $o:tactic)) else `(tactic| (intro $(epsZ `zr):ident; $o:tactic; rintro $(zs.toArray)*))
    | t :: us, _ =>
      let zs := all.drop ts.length
      let i ← if us.isEmpty then `(tactic| intro $t:ident) else let vs : List (TSyntax `term) := us.map fun u => ⟨u.raw⟩; `(tactic| intro $(⟨t.raw⟩):term $(vs.toArray)*)
      if zs.isEmpty then pure i else `(tactic| ($i:tactic; rintro $(zs.toArray)*))
    | _, _ => Macro.throwUnsupported
open Lean Lean.Parser.Tactic in
local macro_rules
  | `(tactic| obtain ⟨$qs:rcasesPatLo,*⟩ : $T:term := $e:term) => do epsAsk; `(tactic| (have h : $T := $e; obtain ⟨$qs,*⟩ := h))
  | `(tactic| obtain ⟨$qs:rcasesPatLo,*⟩ := $e:term) => do
    let q :: r :: as := qs.getElems.toList | Macro.throwUnsupported
    let rest ← if as.isEmpty then epsOb r.raw[0][0].getSepArgs (epsZ `zk) else `(tactic| obtain ⟨$((r :: as).toArray),*⟩ := $(epsZ `zk))
    let an ← epsOb q.raw[0][0].getSepArgs (epsZ `zj)
    let lt ← epsLt
    if lt then Macro.throwUnsupported -- the light words gained nothing
    let one ← match ← (if q.raw[0][0].getSepArgs.size == 1 then epsId q.raw[0][0][0] else pure none) with
      | some x =>
        let ex ← if lt then `(tactic| (refine Exists.elim $(epsZ `zh) fun $x $(epsZ `zk) => ?_; k_extra "eph")) else `(tactic| (k_extra "epx"; generalize epE _ _ = $x at $(epsZ `zk):ident; k_extra "epe"))
        `(tactic| first | ($ex:tactic) | (k_extra "epa"; $an:tactic))
      | none => `(tactic| (k_extra "epa"; $an:tactic))
    let all ← `(tactic| ($one:tactic; $rest))
    let all ← if lt then pure all else `(tactic| first | ($all:tactic) | rcases $(epsZ `zh):ident with ⟨$qs,*⟩)
    `(tactic| (have $(epsZ `zh) := $e; $(← epsClr e); $all:tactic))
open Lean Lean.Parser.Tactic in
local macro_rules
  | `(tactic| rcases $e:term with $p:rcasesPatLo) => do
    let p :: ps := p.raw[0][0].getSepArgs.toList | Macro.throwUnsupported
    if ps.isEmpty || ps.length > 2 then Macro.throwUnsupported
    epsAsk
    let m : TSyntax ``rcasesPatLo := ⟨mkNode ``rcasesPatLo #[mkNode ``rcasesPatMed #[mkNullNode (mkSepArray ps.toArray (mkAtom "|"))], mkNullNode]⟩
    let b ← if ps.length == 1 then epsOb ps.toArray (epsZ `zs) else `(tactic| rcases $(epsZ `zs):ident with $m:rcasesPatLo)
    let a ← epsOb #[p] (epsZ `zs)
    let c ← epsClr e
    `(tactic| focus (apply or_cases $e; rotate_left; (focus ($c:tactic; intro $(epsZ `zs):ident; $b:tactic)); rotate_right; (focus ($c:tactic; intro $(epsZ `zs):ident; $a:tactic))))
open Lean in
local macro_rules
  | `(tactic| rw $s:rwRuleSeq at $h:ident) => do epsAsk; `(tactic| (replace $h:ident := $h; rewrite $s:rwRuleSeq at $h:ident; try (with_reducible rfl)))
open Lean in
local macro_rules
  | `(tactic| k_fold) => do if (← Macro.resolveGlobalName `epsNoFold).isEmpty then Macro.throwUnsupported else `(tactic| skip)
-- Parts
-- Draw
example : True := by
  w_top off
  trivial
section
section
open EpsOn EpsNf
theorem draw_con (w : World) (ca : Nat) (c0 c1 top : Int) (t0 t1 tt : VTok) (ep : Nat) (hc : 0 ≤ c1) (hc' : c1 < 2147483647) (htop : 0 < top) (htop' : top ≤ 100) :
   Con w 347 [.ref ca, .int top tt] 1 8 [(ca, listOf #[.int c0 t0, .int c1 t1] ep)]
     (fun r post => ∃ (d c0' c1' : Int) (t t0' t1' : VTok) (ep' : Nat), r = .int d t ∧ 0 ≤ d ∧ d < top ∧ 0 ≤ c1' ∧ c1' < 2147483647 ∧ post = [(ca, listOf #[.int c0' t0', .int c1' t1'] ep')]) := by
  revert w ca c0 c1 top t0 t1 tt ep hc hc' htop htop'
  intro w ca c0 c1 top t0 t1 tt ep hc hc' htop htop'
  refine con_cx ?_
  k_extra "cx"
  intro B F X N T hk hd hu hret
  refine wpAny_call ?_
  k_dflt (cell_ask [(Str.ofString "cells", .ref ca), (Str.ofString "top", .int top tt)])
  k_steps
  all_goals (cell_end hret 0 0; refine ⟨_, _, _, _, _, _, _, rfl, ?_, ?_, ?_, ?_, rfl⟩)
  all_goals first | assumption | exact (fm (by (first | lia | omega))).1 | exact (fm (by (first | lia | omega))).2
end
end
-- Row
example : True := by
  w_top off
  trivial
section
section
open EpsOn EpsNf
theorem rowPut_con (w : World) (r rd t : Nat) (RT : RowT) (t1 t2 t4 t5 : Nat) (most mo oct drop size : Int) (its : List Value) (ep : Nat) (ts : VTok) (th : Value) (hz : its.length ≤ 1000) :
   Con w 82 [.ref r, .int size ts, th] 1 8 ([(rd, rowD RT t1 t2 t4 t5 most mo t oct drop), (t, listOf its.toArray ep)] ++ [(r, instObj 106 rd)])
     (fun v post => ∃ W', post = W' ++ [(r, instObj 106 rd)] ∧ ∃ (t4' t5' : Nat), ((its.length : Int) < most ∧ oct + size ≤ mo ∧ ∃ x ep', v = .bool true ∧ W' = [(x, tupOf #[.int size ts, th] 0), (rd, rowD RT t1 t2 t4' t5' most mo t (oct + size) drop), (t, listOf (its ++ [Value.ref x]).toArray ep')]) ∨
       (¬ ((its.length : Int) < most ∧ oct + size ≤ mo) ∧ v = .bool false ∧ W' = [(rd, rowD RT t1 t2 t4' t5' most mo t oct (drop + 1)), (t, listOf its.toArray ep)])) := by
  revert w r rd t RT t1 t2 t4 t5 most mo oct drop size its ep ts th hz
  intro w r rd t RT t1 t2 t4 t5 most mo oct drop size its ep ts th hz
  refine con_cx ?_
  (try simp only [List.cons_append, List.nil_append])
  k_extra "cx"
  intro B F X N T hk hd hu hret
  have n1 := led_ne N (a := r) (b := rd) (by k_mem) (by k_mem)
  have n2 := led_ne N (a := r) (b := t) (by k_mem) (by k_mem)
  have n3 := led_ne N (a := rd) (b := t) (by k_mem) (by k_mem)
  refine wpAny_call ?_
  k_dflt (cell_ask [(Str.ofString "self", .ref r), (Str.ofString "size", .int size ts), (Str.ofString "thing", th)])
  k_steps
  all_goals cell_end hret 0 0
  · exact ⟨[_, _], rfl, _, _, .inr ⟨by (first | lia | omega), rfl, rfl⟩⟩
  · exact ⟨[_, _], rfl, _, _, .inr ⟨by (first | lia | omega), rfl, rfl⟩⟩
  · exact ⟨[_, _, _], rfl, _, _, .inl ⟨by (first | lia | omega), by (first | lia | omega), _, _, rfl, rfl⟩⟩
end
theorem rowEmpty_con (w : World) (r rd t : Nat) (RT : RowT) (t1 t2 t4 t5 : Nat) (most mo oct drop : Int) (its : List Value) (ep : Nat) :
   Con w 89 [.ref r] 1 100 [(r, instObj 106 rd), (rd, rowD RT t1 t2 t4 t5 most mo t oct drop), (t, listOf its.toArray ep)]
     (fun v post => v = .bool its.isEmpty ∧ post = [(r, instObj 106 rd), (rd, rowD RT t1 t2 t4 t5 most mo t oct drop), (t, listOf its.toArray ep)]) := by
  refine con_cx ?_
  (try simp only [List.cons_append, List.nil_append])
  k_extra "cx"
  intro B F X N T hk hd hu hret
  refine wpAny_call ?_
  k_dflt (cell_ask [(Str.ofString "self", .ref r)])
  k_steps
  all_goals exact con_end hret (by assumption) (by assumption) (by assumption) (by assumption) (by assumption) _ (fun p hp => .tail _ hp) ⟨rfl, rfl⟩
section
open EpsOn EpsNf
theorem rowTake_con (w : World) (r rd t x : Nat) (RT : RowT) (t1 t2 t4 t5 : Nat) (most mo oct drop size : Int) (its : List Value) (ep : Nat) (th : Value) (ts : VTok) (hz : its.length ≤ 1000) :
   Con w 103 [.ref r] 1 8 ([(rd, rowD RT t1 t2 t4 t5 most mo t oct drop), (t, listOf (Value.ref x :: its).toArray ep)] ++ [(r, instObj 106 rd), (x, tupOf #[.int size ts, th] 0)])
     (fun v post => ∃ W', post = W' ++ [(r, instObj 106 rd), (x, tupOf #[.int size ts, th] 0)] ∧ ∃ (t4' ep' : Nat), v = .ref x ∧ W' = [(rd, rowD RT t1 t2 t4' t5 most mo t (oct - size) drop), (t, listOf its.toArray ep')]) := by
  revert w r rd t x RT t1 t2 t4 t5 most mo oct drop size its ep th ts hz
  intro w r rd t x RT t1 t2 t4 t5 most mo oct drop size its ep th ts hz
  refine con_cx ?_
  (try simp only [List.cons_append, List.nil_append])
  k_extra "cx"
  intro B F X N T hk hd hu hret
  have n1 := led_ne N (a := r) (b := rd) (by k_mem) (by k_mem)
  have n2 := led_ne N (a := r) (b := t) (by k_mem) (by k_mem)
  have n3 := led_ne N (a := rd) (b := t) (by k_mem) (by k_mem)
  have n4 := led_ne N (a := x) (b := t) (by k_mem) (by k_mem)
  have n5 := led_ne N (a := x) (b := rd) (by k_mem) (by k_mem)
  refine wpAny_call ?_
  k_dflt (cell_ask [(Str.ofString "self", .ref r)])
  k_steps
  all_goals (cell_end hret 0 0; exact ⟨[_, _], rfl, _, _, rfl, rfl⟩)
end
theorem mayGo_con (w : World) (ra r rd t : Nat) (RT : RowT) (t1 t2 t4 t5 : Nat) (most mo oct drop k : Int) (its rs : List Value) (ep ep0 : Nat) (kt : VTok) (h0 : 0 ≤ k) (h1 : k < 1000) (hx : rs[k.toNat]? = some (.ref r)) :
   Con w 117 [.ref ra, .int k kt, .none] 2 110 [(ra, listOf rs.toArray ep0), (r, instObj 106 rd), (rd, rowD RT t1 t2 t4 t5 most mo t oct drop), (t, listOf its.toArray ep)]
     (fun v post => v = .bool (!its.isEmpty) ∧ post = [(ra, listOf rs.toArray ep0), (r, instObj 106 rd), (rd, rowD RT t1 t2 t4 t5 most mo t oct drop), (t, listOf its.toArray ep)]) := by
  refine con_cx ?_
  (try simp only [List.cons_append, List.nil_append])
  k_extra "cx"
  intro B F X N T hk hd hu hret
  refine wpAny_call ?_
  k_dflt (cell_ask [(Str.ofString "rows", .ref ra), (Str.ofString "number", .int k kt), (Str.ofString "allowed", .none)])
  k_with "con" => (refine' con_ro (rowEmpty_con w r rd t RT t1 t2 t4 t5 most mo oct drop its ep) ?k1 ?k2 ?k3 ?k4 ?k5 ?kK ?kp ?kd ?ku ?_; cell_call; (case kp => intro q hq; exact List.Mem.tail _ hq); intro r' h' tk' hR' F' N'; subst hR'; (try dsimp only); (try k_sweep))
  k_steps
  · exact con_end hret (by assumption) (by assumption) (by assumption) (by assumption) (by assumption) _ (fun p hp => hp) ⟨rfl, rfl⟩
  · exact con_end hret (by assumption) (by assumption) (by assumption) (by assumption) (by assumption) _ (fun p hp => hp) ⟨by simp [*], rfl⟩
end
-- Wait
example : True := by
  w_top off
  trivial
section
section
open EpsOn EpsNf
theorem waiting_con (w : World) (q qd sa ra fa la : Nat) (T : WfT) (t1 t6 : Nat) (unit time : Int) (ep : Nat) (rows : List RowI) (hn : rows.length ≤ 100) (hz : ∀ x ∈ rows, x.its.length ≤ 1000) :
   Con w 214 [.ref q] 1 200 ((q, instObj 217 qd) :: (qd, wfD T t1 t6 unit sa ra fa la time) :: (ra, listOf (rowRefs rows).toArray ep) :: rowsObjs rows)
     (fun v post => (∃ t, v = .int (thingsIn rows) t) ∧ post = (q, instObj 217 qd) :: (qd, wfD T t1 t6 unit sa ra fa la time) :: (ra, listOf (rowRefs rows).toArray ep) :: rowsObjs rows) := by
  revert w q qd sa ra fa la T t1 t6 unit time ep rows hn hz
  intro w q qd sa ra fa la T t1 t6 unit time ep rows hn hz
  refine con_cx ?_
  k_extra "cx"
  intro B F X N TT hk hd hu hret
  refine wpAny_call ?_
  k_dflt (cell_ask [(Str.ofString "self", .ref q)])
  generalize hW : ((q, instObj 217 qd) :: (qd, wfD T t1 t6 unit sa ra fa la time) :: (ra, listOf (rowRefs rows).toArray ep) :: rowsObjs rows : Led) = W at *
  have m1 : (q, instObj 217 qd) ∈ W := by rw [← hW]; k_mem
  have m2 : (qd, wfD T t1 t6 unit sa ra fa la time) ∈ W := by rw [← hW]; k_mem
  have m3 : (ra, listOf (rowRefs rows).toArray ep) ∈ W := by rw [← hW]; k_mem
  have m4 : ∀ x ∈ rowsObjs rows, x ∈ W := by intro x hx; rw [← hW]; exact .tail _ (.tail _ (.tail _ hx))
  k_with "rest" => (
    (refine compRest_ind (fun i ys news => news = W ∧ IntsAre ys ((rows.take i).map fun x => (x.its.length : Int))) ?turn ?fin _ _ _ _ (Nat.zero_add _) ⟨rfl, .nil⟩)
    (case' turn => (
      intro i ys news v I oI C oC D m₂ h tk E' hi hInv hP hC hx F1 N1 off1 ne1
      obtain ⟨e, hys⟩ := hInv
      rw [e] at N1 off1
      obtain ⟨x, hx1, hx2⟩ := rowRefs_at hP
      obtain ⟨r1, r2, r3⟩ := rowsObjs_mem (List.mem_of_getElem? hx1)
      have hxz := hz x (List.mem_of_getElem? hx1)
      replace r1 := m4 _ r1
      replace r2 := m4 _ r2
      replace r3 := m4 _ r3
      subst hx2))
    (case' fin => (
      intro ys news hInv
      obtain ⟨e, hys⟩ := hInv
      rw [List.size_toArray, rowRefs_length, List.take_length] at hys
      subst e)))
  k_steps
  · exact con_end hret (by assumption) (by assumption) (by assumption) (by assumption) (by assumption) _ (fun p hp => .tail _ hp) ⟨⟨_, rfl⟩, rfl⟩
  · exact LCg.CompEnd.intro F1 N1 W (fun p hp => hp) off1 (Or.inr ⟨_, m3, rfl, _, rfl⟩) ⟨rfl, by rw [take_snoc hx1, List.map_append]; exact ints_snoc hys _ _⟩
  · rw [List.size_toArray, rowRefs_length, sizeLine_eq]; (first | lia | omega)
end
end
-- MinT
example : True := by
  w_top off
  trivial
section
noncomputable abbrev klt (p q : Int × Int) : Prop := p.1 < q.1 ∨ (p.1 = q.1 ∧ p.2 < q.2)
section
variable {prog : Program} {w : World} {A : Around} {E : Value → Shared → Prop} {s : Shared}
theorem tup2_lt (l b : Addr) (k1 k2 : Int × Int) (t1 t2 t3 t4 : Tok) (n n2 : Nat) :
    Meets (Builtin.«tuple.__lt__» ⟨[.ref l, .ref b], []⟩)
      (fun _ R s => s.heap.get? l = some (tupOf #[.int k1.1 t1, .int k1.2 t2] n) ∧ s.heap.get? b = some (tupOf #[.int k2.1 t3, .int k2.2 t4] n2) ∧ R (.ok (.ret (.bool (decide (klt k1 k2))))) s) :=
  .of_wp fun prog w A R s h => by
    obtain ⟨hp, g, d, tk, os⟩ := s; obtain ⟨hl, hb, h⟩ := h
    have f2 := AutoSeq1.sub_tuple_tuple
    wp_walk using AutoSeq1.wpAny_loadPart' hl, AutoSeq1.wpAny_loadPart' hb, wpAny_forIn_list _ (fun rest b s' => b.1 = none ∧ s' = ⟨hp, g, d, tk, os⟩ ∧
      (rest = [(Value.int k1.1 t1, Value.int k2.1 t3), (Value.int k1.2 t2, Value.int k2.2 t4)] ∨ (rest = [(Value.int k1.2 t2, Value.int k2.2 t4)] ∧ k1.1 = k2.1) ∨ (rest = [] ∧ k1.1 = k2.1 ∧ k1.2 = k2.2))) _
    case turn =>
      rintro ⟨y, x⟩ rest b s' ⟨hb', rfl, hz⟩
      rcases hz with hz | ⟨hz, e1⟩ | ⟨hz, e1, e2⟩
      · cases hz
        refine wpAny_bind (SeqAt.EqAt.int_int k1.1 t1 k2.1 t3 prog w _ _ ?_)
        by_cases e : k1.1 = k2.1
        · have e' : (k1.1 == k2.1) = true := by simpa using e
          rw [e']
          wp_walk
          exact ⟨rfl, rfl, .inr (.inl ⟨rfl, e⟩)⟩
        · have e' : (k1.1 == k2.1) = false := by simpa using e
          rw [e']
          have hk : decide (klt k1 k2) = decide (k1.1 < k2.1) := by simp [klt, e]
          rw [hk] at h
          simp only [Bool.not_false, if_true]
          refine wpAny_bind (wpAny_rule (wpAny_bind ?_))
          refine wpAny_lt_int (a := k1.1) (b := k2.1) (t := t1) (u := t3) ?_
          wp_walk
          exact ⟨_, rfl, h⟩
      · cases hz
        refine wpAny_bind (SeqAt.EqAt.int_int k1.2 t2 k2.2 t4 prog w _ _ ?_)
        by_cases e : k1.2 = k2.2
        · have e' : (k1.2 == k2.2) = true := by simpa using e
          rw [e']
          wp_walk
          exact ⟨rfl, rfl, .inr (.inr ⟨rfl, e1, e⟩)⟩
        · have e' : (k1.2 == k2.2) = false := by simpa using e
          rw [e']
          have hk : decide (klt k1 k2) = decide (k1.2 < k2.2) := by simp [klt, e1]
          rw [hk] at h
          simp only [Bool.not_false, if_true]
          refine wpAny_bind (wpAny_rule (wpAny_bind ?_))
          refine wpAny_lt_int (a := k1.2) (b := k2.2) (t := t2) (u := t4) ?_
          wp_walk
          exact ⟨_, rfl, h⟩
      · cases hz
    case fin =>
      rintro ⟨b1, b2⟩ s' ⟨hb', rfl, hz⟩
      simp only at hb'
      subst hb'
      rcases hz with hz | ⟨hz, e1⟩ | ⟨hz, e1, e2⟩
      · cases hz
      · cases hz
      wp_walk
      have : decide (klt k1 k2) = false := by simp [klt, e1, e2]
      rw [this] at h
      exact ⟨_, rfl, by simpa [Builtin.Tuple.tupleCompareSizes] using h⟩
    case h =>
      exact ⟨rfl, rfl, .inl rfl⟩
theorem rc_tup2 {l b : Addr} {k1 k2 : Int × Int} {t1 t2 t3 t4 : Tok} {n n2 : Nat} {Q : Value → Shared → Prop} (hl : s.heap.get? l = some (tupOf #[.int k1.1 t1, .int k1.2 t2] n)) (hb : s.heap.get? b = some (tupOf #[.int k2.1 t3, .int k2.2 t4] n2)) (hu : A.units < cLine)
    (h : Q (.bool (decide (klt k1 k2))) s) : wpAny (model prog w) A (richCompare .Lt (.ref l) (.ref b)) Q E s :=
  richCompare_meets_room (op := .Lt) ⟨_, hl, rfl⟩ ⟨_, hb, rfl⟩ F.slot_tuple_lt F.entry_tuple_lt (F.args_tuple_lt_2 _ _) (tup2_lt l b k1 k2 t1 t2 t3 t4 n n2) ⟨hl, hb, ⟨by simp, h⟩⟩ hu

noncomputable def Keep2 (I S : Addr) (h h' : Heap) : Prop := ∀ b o, b ≠ I → b ≠ S → h.get? b = some o → h'.get? b = some o
noncomputable def Best (key : Nat → Int × Int) (n i : Nat) : Prop := ∀ j, j < n → ¬ klt (key j) (key i)
theorem klt_le {p q r : Int × Int} (h : ¬ klt q p) (h2 : klt r p) : ¬ klt q r := by
  unfold klt at *
  omega
theorem minT_loop {I S l : Addr} {vs : List Value} {h₁ : Heap} (hh : A.handled = none) (hu : A.in1.units < cLine) (hlI : l ≠ I) (hSI : S ≠ I) (hlS : l ≠ S) (hl : h₁.IsList l vs.toArray) (key : Nat → Int × Int)
    (hT : ∀ (i : Nat) v, vs[i]? = some v → ∃ (a : Addr) (t1 t2 : Tok) (n : Nat), v = .ref a ∧ a ≠ I ∧ a ≠ S ∧ h₁.get? a = some (tupOf #[.int (key i).1 t1, .int (key i).2 t2] n)) {R : Result → Shared → Prop}
    (hR : ∀ (i : Nat) v h' tk', vs[i]? = some v → Best key vs.length i → Keep2 I S h₁ h' → R (.ok (.ret v)) { s with heap := h', toks := tk' }) :
    ∀ (r j i : Nat) (h : Heap) (tk : Nat) (vb : Value) (c : Nat), vs.length = j + 1 + r → i ≤ j → vs[i]? = some vb → Best key (j + 1) i → h.IsListIter I l (j + 1) → h.get? S = some (listOf #[vb, vb] c) → Keep2 I S h₁ h →
      codeAny (model prog w) A (.builtin "min.loop" ⟨[.ref I, .none, .ref S], []⟩) R { s with heap := h, toks := tk } := by
  have hname : (toString "min" ++ toString ".loop" : String) = "min.loop" := by decide
  have W := Walks.list (prog := prog) (w := w) (A := A.in1) hh I l hlI vs.toArray
  have isl : ∀ h, Keep2 I S h₁ h → h.IsList l vs.toArray := fun h k => hl.at fun o e => k l o hlI hlS e
  intro r
  induction r with
  | zero =>
    intro j i h tk vb c hn hij hvb hB hit hS hK
    refine codeAny_builtin F.entry_min_loop ?_
    rw [Around.under_plainId F.plain_min_loop _]
    refine wpAny_bind (m := seqItems? (.ref S)) (wpAny_seqItems hS rfl ?_)
    refine wpAny_bind (m := tryCatch (pyNext (.ref I)) _) (wpAny_tryCatch (W.done _ _ _ ⟨by rw [List.size_toArray, hn]; exact hit, isl h hK⟩ fun h' tk' hk' => ?_))
    have hS' := hk' S _ (by simpa using hSI) hS
    refine wpAny_bind (m := updateSeq S fun _ => #[]) (wpAny_updateSeq hS' rfl (wpAny_bind (wpAny_letGo (wpAny_pure ?_))))
    refine hR i vb _ _ hvb (by rw [hn]; exact hB) fun b o hb hb' e => ?_
    exact (Heap.get?_update_other _ _ (Ne.symm hb')).trans (hk' b o (by simpa using hb) (hK b o hb hb' e))
  | succ r ih =>
    intro j i h tk vb c hn hij hvb hB hit hS hK
    refine codeAny_builtin F.entry_min_loop ?_
    rw [Around.under_plainId F.plain_min_loop _]
    refine wpAny_bind (m := seqItems? (.ref S)) (wpAny_seqItems hS rfl ?_)
    refine wpAny_bind (m := tryCatch (pyNext (.ref I)) _) (wpAny_tryCatch (W.item (j + 1) _ _ _ (by rw [List.size_toArray]; (first | lia | omega)) ⟨hit, isl h hK⟩ fun v h' tk' hP hst hk' => ?_))
    have hv : vs[j + 1]? = some v := by simpa using hP
    have hS' := hk' S _ (by simpa using hSI) hS
    have hK' : Keep2 I S h₁ h' := fun b o hb hb' e => hk' b o (by simpa using hb) (hK b o hb hb' e)
    obtain ⟨a1, t1, t2, n1, e1, x1, y1, z1⟩ := hT _ _ hv
    obtain ⟨a2, t3, t4, n2, e2, x2, y2, z2⟩ := hT _ _ hvb
    subst e1
    subst e2
    show wpAny _ A.in1 (tryCatch (holding [Value.ref a1, Value.ref a1] (richCompare .Lt (.ref a1) (.ref a2) >>= _)) _ >>= _) _ _ _
    refine wpAny_bind (wpAny_tryCatch (wpAny_holding (wpAny_bind (rc_tup2 (hK' _ _ x1 y1 z1) (hK' _ _ x2 y2 z2) hu ?_))))
    refine wpAny_bind (wpAny_holding (wpAny_truthy_bool (wpAny_bind (wpAny_letGo (wpAny_pure ?_)))))
    by_cases hb : klt (key (j + 1)) (key i)
    · rw [decide_eq_true hb]
      simp only [if_true]
      refine wpAny_bind (wpAny_updateSeq hS' rfl (wpAny_bind (wpAny_letGo ?_)))
      rw [hname]
      refine wpAny_pure ⟨plainId_quiet F.plain_min_loop _, ih (j + 1) (j + 1) _ _ (.ref a1) _ (by (first | lia | omega)) (Nat.le_refl _) hv (fun j' hj' => ?_) (hst.1.at fun o e => (Heap.get?_update_other _ _ hSI).trans e) (Heap.get?_update_self _ hS' rfl)
        fun b o hb1 hb2 e => (Heap.get?_update_other _ _ (Ne.symm hb2)).trans (hK' b o hb1 hb2 e)⟩
      rcases Nat.lt_or_ge j' (j + 1) with h1 | h1
      · have := hB j' h1
        unfold klt at *
        (first | lia | omega)
      · have : j' = j + 1 := by (first | lia | omega)
        subst this
        unfold klt
        (first | lia | omega)
    · rw [decide_eq_false hb]
      simp only [Bool.false_eq_true, if_false]
      refine wpAny_bind (wpAny_letGo ?_)
      rw [hname]
      refine wpAny_pure ⟨plainId_quiet F.plain_min_loop _, ih (j + 1) i _ _ (.ref a2) c (by (first | lia | omega)) (by (first | lia | omega)) hvb (fun j' hj' => ?_) hst.1 hS' hK'⟩
      rcases Nat.lt_or_ge j' (j + 1) with h1 | h1
      · exact hB j' h1
      · have : j' = j + 1 := by (first | lia | omega)
        subst this
        exact hb
theorem min_tups {l : Addr} {vs : List Value} {m : Str → Option Value} {h₀ : Heap} {L : Addr} {news : Led} {ep : Nat} {Q : Value → Shared → Prop} (hh : A.handled = none) (hu : A.in1.units < cLine) (F₀ : Fr h₀ L s.heap m) (N : News h₀ L s.heap news) (hm : (l, listOf vs.toArray ep) ∈ news)
    (key : Nat → Int × Int) (hT : ∀ (i : Nat) v, vs[i]? = some v → ∃ (a : Addr) (t1 t2 : Tok) (n : Nat), v = .ref a ∧ (a, tupOf #[.int (key i).1 t1, .int (key i).2 t2] n) ∈ news) (hne : 0 < vs.length)
    (hQ : ∀ (i : Nat) v h' tk', vs[i]? = some v → Best key vs.length i → Fr h₀ L h' m → News h₀ L h' news → Q v { s with heap := h', toks := tk' }) :
    wpAny (model prog w) A (call (.builtin "min") [.ref l]) Q E s := by
  have hname : (toString "min" ++ toString ".loop" : String) = "min.loop" := by decide
  have hl : s.heap.IsList l vs.toArray := ⟨_, (N _ hm).1, rfl, ep, rfl⟩
  refine call_function_tree F.kind_min F.plain_min F.entry_min (F.args_min1 _) ?_
  refine wpAny_bind (wpAny_of_eq (show Builtin.Builtins.bindParams "min" ["key", "default"] 0 ⟨[], []⟩ = pure [none, none] from rfl) ?_)
  refine wpAny_bind (wpAny_pure ?_)
  refine wpAny_bind (wpAny_pyIter_list hl ?_)
  refine wpAny_bind (wpAny_newList ?_ (Nat.zero_le _))
  rw [hname]
  generalize hH : ((s.heap.push { cls := .type "list_iterator", data := .fields [Value.ref l, Value.int 0 0].toArray } : Heap)) = H1
  have hs1 : H1.objs.size = s.heap.objs.size + 1 := by rw [← hH]; exact size_push' ..
  have g1 : ∀ b o, s.heap.get? b = some o → H1.get? b = some o := fun b o e => by rw [← hH]; exact Heap.get?_push_of_some _ e
  have gI : H1.get? s.heap.objs.size = some { cls := .type "list_iterator", data := .fields [Value.ref l, Value.int 0 0].toArray } := by rw [← hH]; exact Heap.get?_push_size _ rfl
  dsimp only
  have lt : ∀ {b : Addr} {o : Obj}, s.heap.get? b = some o → b ≠ s.heap.objs.size ∧ b ≠ H1.objs.size := fun {b o} e => by
    have h1 := Heap.lt_size e
    rw [hs1]
    exact ⟨Nat.ne_of_lt h1, Nat.ne_of_lt (Nat.lt_succ_of_lt h1)⟩
  obtain ⟨ol, hol, _⟩ := id hl
  have hSI : H1.objs.size ≠ s.heap.objs.size := by rw [hs1]; exact Nat.succ_ne_self _
  have W := Walks.list (prog := prog) (w := w) (A := A.in1) hh s.heap.objs.size l (lt hol).1 vs.toArray
  refine wpAny_pure ⟨plainId_quiet F.plain_min_loop _, ?_⟩
  refine codeAny_builtin F.entry_min_loop ?_
  rw [Around.under_plainId F.plain_min_loop _]
  have gS : (H1.push (listOf #[] 0)).get? H1.objs.size = some (listOf #[] 0) := Heap.get?_push_size _ rfl
  show wpAny _ A.in1 (seqItems? (.ref H1.objs.size) >>= _) _ _ _
  refine wpAny_bind (wpAny_seqItems gS rfl ?_)
  show wpAny _ A.in1 (tryCatch (pyNext (.ref s.heap.objs.size)) _ >>= _) _ _ _
  refine wpAny_bind (wpAny_tryCatch (W.item 0 _ _ _ (by rw [List.size_toArray]; exact hne) ⟨⟨_, Heap.get?_push_of_some _ gI, rfl, rfl⟩, hl.at fun o e => Heap.get?_push_of_some _ (g1 _ _ e)⟩ fun v h' tk' hP hst hk' => ?_))
  have hv : vs[0]? = some v := by simpa using hP
  have hS' := hk' H1.objs.size _ (by simpa using hSI) gS
  have hK : Keep2 s.heap.objs.size H1.objs.size s.heap h' := fun b o hb _ e => hk' b o (by simpa using hb) (Heap.get?_push_of_some _ (g1 _ _ e))
  show wpAny _ A.in1 (updateSeq H1.objs.size (fun _ => #[v, v]) >>= _) _ _ _
  refine wpAny_bind (wpAny_updateSeq hS' rfl ?_)
  rw [hname]
  refine wpAny_pure ⟨plainId_quiet F.plain_min_loop _, minT_loop (s := s) hh hu (lt hol).1 hSI (lt hol).2 hl key (fun i v' hv' => ?_) (fun i v' h2 tk2 hv' hB hK2 => ?_) (vs.length - 1) 0 0 _ _ v _ (by (first | lia | omega)) (Nat.le_refl _) hv (fun j hj => ?_) (hst.1.at fun o e => (Heap.get?_update_other _ _ hSI).trans e) (Heap.get?_update_self _ hS' rfl)
        fun b o hb1 hb2 e => (Heap.get?_update_other _ _ (Ne.symm hb2)).trans (hK b o hb1 hb2 e)⟩
  · obtain ⟨a, t1, t2, n, e, hm'⟩ := hT i v' hv'
    have z := (N _ hm').1
    exact ⟨a, t1, t2, n, e, (lt z).1, (lt z).2, z⟩
  · have up : ∀ b o, s.heap.get? b = some o → h2.get? b = some o := fun b o e => hK2 b o (lt e).1 (lt e).2 e
    exact hQ i v' h2 tk2 hv' hB (F₀.keeps up) (N.grown up)
  · have : j = 0 := by (first | lia | omega)
    subst this
    unfold klt
    (first | lia | omega)
end
end
-- Bk
example : True := by
  w_top off
  trivial
section
section
open EpsOn EpsNf
theorem greater_con (w : World) (a b : Nat) (n1 d1 n2 d2 : Int) (t1 t2 t3 t4 : VTok) (h1 : 0 ≤ n1) (h1' : n1 ≤ 1000000000000000000) (h2 : 0 ≤ d1) (h2' : d1 ≤ 1000000000000000000) (h3 : 0 ≤ n2) (h3' : n2 ≤ 1000000000000000000) (h4 : 0 ≤ d2) (h4' : d2 ≤ 1000000000000000000) :
   Con w 354 [.ref a, .ref b] 1 8 [(a, tupOf #[.int n1 t1, .int d1 t2] 0), (b, tupOf #[.int n2 t3, .int d2 t4] 0)]
     (fun r post => r = (if n2 * d1 ≤ n1 * d2 then .ref a else .ref b) ∧ post = [(a, tupOf #[.int n1 t1, .int d1 t2] 0), (b, tupOf #[.int n2 t3, .int d2 t4] 0)]) := by
  revert w a b n1 d1 n2 d2 t1 t2 t3 t4 h1 h1' h2 h2' h3 h3' h4 h4'
  intro w a b n1 d1 n2 d2 t1 t2 t3 t4 h1 h1' h2 h2' h3 h3' h4 h4'
  refine con_cx ?_
  k_extra "cxa"
  intro B F X N T hk hd hu hret
  refine wpAny_call ?_
  k_dflt (cell_ask [(Str.ofString "one", .ref a), (Str.ofString "other", .ref b)])
  k_steps
  · exact con_end hret (by assumption) (by assumption) (by assumption) (by assumption) (by assumption) _ (fun p hp => hp) ⟨by rw [if_pos (by omega)], rfl⟩
  · exact con_end hret (by assumption) (by assumption) (by assumption) (by assumption) (by assumption) _ (fun p hp => hp) ⟨by rw [if_neg (by omega)], rfl⟩
end
set_option genInjectivity false in
structure BIt where
  (num den size : Int) (th : Value)
  deriving Inhabited
inductive BItsAre (R : Led) : List Value → List BIt → Prop
  | nil : BItsAre R [] []
  | cons {ad e : Nat} {ts t u : Tok} {it : BIt} {vs : List Value} {its : List BIt} : (ad, tupOf #[.ref e, .int it.size ts, it.th] 0) ∈ R → (e, tupOf #[.int it.num t, .int it.den u] 0) ∈ R → BItsAre R vs its → BItsAre R (.ref ad :: vs) (it :: its)
theorem BItsAre.len {R : Led} {vs its} (h : BItsAre R vs its) : vs.length = its.length := by
  induction h with
  | nil => rfl
  | cons _ _ _ ih => simp [ih]
theorem BItsAre.mono {R R' : Led} {vs its} (h : BItsAre R vs its) (k : ∀ (a : Nat) x, (a, tupOf x 0) ∈ R → (a, tupOf x 0) ∈ R') : BItsAre R' vs its := by
  induction h with
  | nil => exact .nil
  | cons h h2 _ ih => exact .cons (k _ _ h) (k _ _ h2) ih
theorem BItsAre.snoc {R : Led} {vs its} (h : BItsAre R vs its) {ad e : Nat} {ts t u : Tok} {it : BIt} (hm : (ad, tupOf #[.ref e, .int it.size ts, it.th] 0) ∈ R) (hm2 : (e, tupOf #[.int it.num t, .int it.den u] 0) ∈ R) : BItsAre R (vs ++ [.ref ad]) (its ++ [it]) := by
  induction h with
  | nil => exact .cons hm hm2 .nil
  | cons h h2 _ ih => exact .cons h h2 ih
theorem BItsAre.at {R : Led} {vs its} (h : BItsAre R vs its) : ∀ {i : Nat} {v : Value}, vs[i]? = some v → ∃ (ad e : Nat) (ts t u : Tok) (it : BIt), its[i]? = some it ∧ v = .ref ad ∧ (ad, tupOf #[.ref e, .int it.size ts, it.th] 0) ∈ R ∧ (e, tupOf #[.int it.num t, .int it.den u] 0) ∈ R := by
  induction h with
  | nil => intro i v h; simp at h
  | cons h h2 _ ih =>
    intro i v hv
    cases i with
    | zero => simp at hv; exact ⟨_, _, _, _, _, _, rfl, hv.symm, h, h2⟩
    | succ i => simp at hv; exact ih hv
noncomputable def bOct (its : List BIt) : Int := (its.map BIt.size).sum
section
open EpsOn EpsNf
theorem room_con (w : World) (ra la ep : Nat) (vs : List Value) (its : List BIt) (most mo many : Int) (t1 t2 tm : VTok) (R : Led) (m1 : (ra, listOf vs.toArray ep) ∈ R) (m2 : (la, tupOf #[.int most t1, .int mo t2] 0) ∈ R) (hi : BItsAre R vs its) (hz : vs.length ≤ 1000) :
   Con w 359 [.ref ra, .ref la, .int many tm] 2 100 R
     (fun r post => r = .bool (decide ((its.length : Int) < most ∧ bOct its + many ≤ mo)) ∧ post = R) := by
  revert w ra la ep vs its most mo many t1 t2 tm R m1 m2 hi hz
  intro w ra la ep vs its most mo many t1 t2 tm R m1 m2 hi hz
  refine con_cx ?_
  k_extra "cxa"
  intro B F X N T hk hd hu hret
  refine wpAny_call ?_
  k_dflt (cell_ask [(Str.ofString "row", .ref ra), (Str.ofString "limit", .ref la), (Str.ofString "many", .int many tm)])
  have hvl := hi.len
  k_with "rest" => (refine hold ?_)
  k_steps
  · unfold Hold
    refine compRest_ind (fun i ys news => news = R ∧ IntsAre ys ((its.take i).map BIt.size)) ?turn ?fin _ _ _ _ (Nat.zero_add _) ⟨rfl, .nil⟩
    case turn =>
      intro i ys news v I oI C oC D m₂ h tk E' hi' hInv hP hC hx F1 N1 off1 ne1
      obtain ⟨e, hys⟩ := hInv
      rw [e] at N1 off1
      have hP' : vs.toArray[i]? = some v := hP
      rw [List.getElem?_toArray] at hP'
      obtain ⟨ad, ee, ts, t, u, it, hit, rfl, hm1, hm2⟩ := hi.at hP'
      k_steps
      exact LCg.CompEnd.intro F1 N1 R (fun p hp => hp) off1 (Or.inr ⟨_, m1, rfl, _, rfl⟩) ⟨rfl, by rw [take_snoc hit, List.map_append]; exact ints_snoc hys _ _⟩
    case fin =>
      intro ys news hInv
      obtain ⟨e, hys⟩ := hInv
      rw [List.size_toArray, hvl, List.take_length] at hys
      subst e
      k_steps
      exact con_end hret (by assumption) (by assumption) (by assumption) (by assumption) (by assumption) _ (fun p hp => .tail _ hp) ⟨by rw [← hvl]; simp only [bOct]; congr 1; exact decide_eq_decide.mpr ⟨fun h => ⟨by assumption, h⟩, fun h => h.2⟩, rfl⟩
  · rw [List.size_toArray, sizeLine_eq]; (first | lia | omega)
  · exact con_end hret (by assumption) (by assumption) (by assumption) (by assumption) (by assumption) _ (fun p hp => hp) ⟨by rw [← hvl]; congr 1; exact decide_eq_decide.mpr ⟨fun h => absurd h (by assumption), fun h => h.1⟩, rfl⟩
end
end
-- Put
example : True := by
  w_top off
  trivial
section
section
open EpsOn
theorem wfPut_con (w : World) (q qd sa ra fa la fk r rd t : Nat) (T : WfT) (t1 t6 : Nat) (RT : RowT) (u1 u2 u4 u5 : Nat) (most mo oct drop : Int) (its : List Value) (unit time k size step : Int) (lasts fs : List Int) (ep1 ep2 ep3 ep4 ep5 ep6 : Nat) (kt st tst : VTok) (th : Value)
    (svs lvs fvs fks : List Value) (rows : List RowI) (R : Led)
    (hn : rows.length ≤ 100) (hz : ∀ x ∈ rows, x.its.length ≤ 1000) (hk0 : 0 ≤ k) (hk1 : k < rows.length)
    (hr : (rowRefs rows)[k.toNat]? = some (.ref r)) (hf : fvs[k.toNat]? = some (.ref fk)) (hs : svs[k.toNat]? = some (.int step tst)) (hsz0 : 0 ≤ size) (hsz1 : size ≤ 1000)
    (m1 : (q, instObj 217 qd) ∈ R) (m2 : (sa, listOf svs.toArray ep1) ∈ R) (m3 : (ra, listOf (rowRefs rows).toArray ep2) ∈ R) (m4 : (fa, listOf fvs.toArray ep3) ∈ R) (m5 : (r, instObj 106 rd) ∈ R)
    (m6 : ∀ p ∈ rowsObjs rows, p ∈ ([(rd, rowD RT u1 u2 u4 u5 most mo t oct drop), (t, listOf its.toArray ep6)] ++ R))
    (hoff : OwnOff R [qd, la, fk, rd, t]) (D : [qd, la, fk, rd, t].Nodup) (hi : IntsAre lvs lasts) (hfi : IntsAre fks fs) (hn2 : lvs.length = rows.length) (hits : its.length ≤ 1000) (hfk : fks.length ≤ 1000) :
   Con w 195 [.ref q, .int k kt, .int size st, th] 3 300 ([(qd, wfD T t1 t6 unit sa ra fa la time), (la, listOf lvs.toArray ep4), (fk, listOf fks.toArray ep5), (rd, rowD RT u1 u2 u4 u5 most mo t oct drop), (t, listOf its.toArray ep6)] ++ R)
     (fun v post => ∃ W', post = W' ++ R ∧ ∃ (la' : Nat) (lvs' : List Value) (lasts' : List Int) (t6' ep4' u4' u5' : Nat) (time' : Int),
        IntsAre lvs' lasts' ∧ (la' = la ∨ ∀ p ∈ ([(qd, wfD T t1 t6 unit sa ra fa la time), (la, listOf lvs.toArray ep4), (fk, listOf fks.toArray ep5), (rd, rowD RT u1 u2 u4 u5 most mo t oct drop), (t, listOf its.toArray ep6)] ++ R), p.1 < la') ∧
        time' = (if thingsIn rows = 0 then 0 else time) ∧
        (((its.length : Int) < most ∧ oct + size ≤ mo ∧ ∃ (x ep5' ep6' : Nat) (fks' : List Value), v = .bool true ∧
            lasts' = ((if thingsIn rows = 0 then List.replicate lasts.length 0 else lasts).set k.toNat (max ((if thingsIn rows = 0 then List.replicate lasts.length 0 else lasts).getD k.toNat 0) time' + size * step)) ∧
            IntsAre fks' (fs ++ [max ((if thingsIn rows = 0 then List.replicate lasts.length 0 else lasts).getD k.toNat 0) time' + size * step]) ∧
            W' = [(x, tupOf #[.int size st, th] 0), (qd, wfD T t1 t6' unit sa ra fa la' time'), (la', listOf lvs'.toArray ep4'), (fk, listOf fks'.toArray ep5'), (rd, rowD RT u1 u2 u4' u5' most mo t (oct + size) drop), (t, listOf (its ++ [Value.ref x]).toArray ep6')]) ∨
         (¬ ((its.length : Int) < most ∧ oct + size ≤ mo) ∧ v = .bool false ∧ lasts' = (if thingsIn rows = 0 then List.replicate lasts.length 0 else lasts) ∧
            W' = [(qd, wfD T t1 t6' unit sa ra fa la' time'), (la', listOf lvs'.toArray ep4'), (fk, listOf fks.toArray ep5), (rd, rowD RT u1 u2 u4' u5' most mo t oct (drop + 1)), (t, listOf its.toArray ep6)]))) := by
  revert w q qd sa ra fa la fk r rd t T t1 t6 RT u1 u2 u4 u5 most mo oct drop its unit time k size step lasts fs ep1 ep2 ep3 ep4 ep5 ep6 kt st tst th svs lvs fvs fks rows R hn hz hk0 hk1 hr hf hs hsz0 hsz1 m1 m2 m3 m4 m5 m6 hoff D hi hfi hn2 hits hfk
  intro w q qd sa ra fa la fk r rd t T t1 t6 RT u1 u2 u4 u5 most mo oct drop its unit time k size step lasts fs ep1 ep2 ep3 ep4 ep5 ep6 kt st tst th svs lvs fvs fks rows R hn hz hk0 hk1 hr hf hs hsz0 hsz1 m1 m2 m3 m4 m5 m6 hoff D hi hfi hn2 hits hfk
  refine con_cx ?_
  (try simp only [List.cons_append, List.nil_append])
  k_extra "cx"
  intro BB F X N TT hk hd hu hret
  obtain ⟨e1, e2, e3, e4, e5, e6, e7, e8, e9, e10⟩ := nd5 D
  refine wpAny_call ?_
  k_dflt (cell_ask [(Str.ofString "self", .ref q), (Str.ofString "number", .int k kt), (Str.ofString "size", .int size st), (Str.ofString "thing", th)])
  rename_i g1 L1 h1 FG1 F1 N1 B1 X1 T1 hin1 l11
  k_with "con" => (refine hold ?_)
  refine wpAny_execs_cons (wpAny_mono (Q := fun f s' => Hide (f = Flow.next ∧ ∃ (la' : Nat) (lvs' : List Value) (t6' ep4' : Nat) (lasts' : List Int) (time' : Int) (h' : Heap) (tk' : Nat), s' = { s with heap := h', toks := tk' } ∧
      Fr g1 L1 h' (fun y => List.lookup y [(Str.ofString "self", Value.ref q), (Str.ofString "number", Value.int k kt), (Str.ofString "size", Value.int size st), (Str.ofString "thing", th)].reverse) ∧
      News g1 L1 h' ((qd, wfD T t1 t6' unit sa ra fa la' time') :: (la', listOf lvs'.toArray ep4') :: (fk, listOf fks.toArray ep5) :: (rd, rowD RT u1 u2 u4 u5 most mo t oct drop) :: (t, listOf its.toArray ep6) :: R) ∧
      (la' = la ∨ ∀ p ∈ ([(qd, wfD T t1 t6 unit sa ra fa la time), (la, listOf lvs.toArray ep4), (fk, listOf fks.toArray ep5), (rd, rowD RT u1 u2 u4 u5 most mo t oct drop), (t, listOf its.toArray ep6)] ++ R), p.1 < la') ∧
      IntsAre lvs' lasts' ∧ lasts' = (if thingsIn rows = 0 then List.replicate lasts.length 0 else lasts) ∧ time' = (if thingsIn rows = 0 then 0 else time))) ?first ?rest fun _ _ z => z)
  case first =>
    have hlv : lvs.length ≤ 1000000 := by (first | lia | omega)
    k_steps
    · unfold Hold
      refine' con_ro (waiting_con w q qd sa ra fa la T t1 t6 unit time ep2 rows hn hz) ?k1 ?k2 ?k3 ?k4 ?k5 ?kK ?kp ?kd ?ku ?_
      cell_call
      (case kp => exact List.forall_mem_cons.mpr ⟨by k_mem, List.forall_mem_cons.mpr ⟨by k_mem, List.forall_mem_cons.mpr ⟨by k_mem, fun p hp => .tail _ (.tail _ (.tail _ (m6 p hp)))⟩⟩⟩)
      intro r' h' tk' hR' F' N'
      obtain ⟨tw', hR'⟩ := hR'
      subst hR'
      k_steps
      · exact ⟨rfl, _, _, _, _, _, _, _, _, rfl, by assumption, kst_newsOf (by assumption) (by lcg_sub), .inr fun p hp => ‹∀ p ∈ ((_, listOf #[Value.int 0 _] _) :: _ : Led), p.1 < _› p (.tail _ hp), ints_rep _ _, by rw [if_pos (by assumption), ← hi.length]; rfl, by rw [if_pos (by assumption)]⟩
      · exact ⟨rfl, _, _, _, _, _, _, _, _, rfl, by assumption, by assumption, .inl rfl, hi, by rw [if_neg (by assumption)], by rw [if_neg (by assumption)]⟩
  case rest =>
    intro f s' hM
    obtain ⟨rfl, la', lvs', t6', ep4', lasts', time', h2, tk2, rfl, F2, N2, hla, hi2, hl2, ht2⟩ := hM
    clear F1 N1
    have hlen2 : lvs'.length = rows.length := by rw [hi2.length, hl2]; split <;> simp [← hi.length, hn2]
    obtain ⟨tl', hl'⟩ := hi2.get k.toNat (lasts'.getD k.toNat 0) (by rw [List.getD_eq_getElem?_getD, List.getElem?_eq_getElem (by rw [← hi2.length]; (first | lia | omega))]; rfl)
    have hoff2 : OwnOff R [qd, la', fk, rd, t] ∧ NeA qd la' ∧ NeA la' fk ∧ NeA la' rd ∧ NeA la' t := by
      rcases hla with rfl | hla
      · exact ⟨hoff, e1, e5, e6, e7⟩
      · refine ⟨fun p hp b hb => ?_, Nat.ne_of_lt (hla _ (.head _)), (Nat.ne_of_lt (hla _ (.tail _ (.tail _ (.head _))))).symm, (Nat.ne_of_lt (hla _ (.tail _ (.tail _ (.tail _ (.head _)))))).symm, (Nat.ne_of_lt (hla _ (.tail _ (.tail _ (.tail _ (.tail _ (.head _))))))).symm⟩
        rcases List.mem_cons.mp hb with rfl | hb
        · exact hoff p hp _ (.head _)
        rcases List.mem_cons.mp hb with rfl | hb
        · exact Nat.ne_of_lt (hla p (.tail _ (.tail _ (.tail _ (.tail _ (.tail _ hp))))))
        · exact hoff p hp _ (.tail _ (.tail _ hb))
    obtain ⟨hoff2, f1, f2, f3, f4⟩ := hoff2
    clear hoff e1 e5 e6 e7
    dsimp only
    k_steps
    unfold Hold
    refine' con_m (rowPut_con w r rd t RT u1 u2 u4 u5 most mo oct drop size its ep6 st th hits) ?k1 ?k2 ?k3 ?k4 ?k5 ?kK ?kp ?kr ?ko ?kd ?ku ?_
    cell_call
    (case kp => lcg_src)
    (case kr => lcg_sub)
    (case ko => ke_reads)
    intro r' W' h' tk' hP' F' N' fr'
    obtain ⟨t4', t5', hP'⟩ := hP'
    rcases hP' with ⟨hr1', hr2', x', ep', rfl, rfl⟩ | ⟨hr', rfl, rfl⟩
    all_goals (simp only [List.cons_append, List.nil_append] at N')
    · have g1 := led_ne N' (a := x') (b := la') (by k_mem) (by k_mem)
      have g2 := led_ne N' (a := x') (b := fk) (by k_mem) (by k_mem)
      k_steps
      subst hl2
      refine' con_end hret (by assumption) (by assumption) (by assumption) (by assumption) (by assumption) (_ ++ R) ?_ ⟨_, rfl, la', _, _, t6', ep4', t4', t5', time', ints_set hi2 _, hla, ht2, .inl ⟨hr1', hr2', x', _, _, _, rfl, rfl, ints_snoc hfi _ _, rfl⟩⟩
      simp only [List.cons_append, List.nil_append]
      lcg_sub
    · k_steps
      subst hl2
      refine' con_end hret (by assumption) (by assumption) (by assumption) (by assumption) (by assumption) (_ ++ R) ?_ ⟨_, rfl, la', _, _, t6', ep4', t4', t5', time', hi2, hla, ht2, .inr ⟨hr', rfl, rfl, rfl⟩⟩
      simp only [List.cons_append, List.nil_append]
      lcg_sub
end
end
-- Look
example : True := by
  w_top off
  trivial
section
noncomputable def liveN (rows : List RowI) (j : Nat) : Bool := match rows[j]? with
  | some x => !x.its.isEmpty
  | none => false
noncomputable def liveJs (rows : List RowI) (i : Nat) : List Nat := (List.range i).filter (liveN rows)
theorem liveJs_yes {rows : List RowI} {i : Nat} {x : RowI} (h : rows[i]? = some x) (hx : x.its.isEmpty = false) : liveJs rows (i + 1) = liveJs rows i ++ [i] := by
  simp [liveJs, List.range_succ, List.filter_append, liveN, h, hx]
theorem liveJs_no {rows : List RowI} {i : Nat} {x : RowI} (h : rows[i]? = some x) (hx : x.its.isEmpty = true) : liveJs rows (i + 1) = liveJs rows i := by
  simp [liveJs, List.range_succ, List.filter_append, liveN, h, hx]
theorem liveJs_mem {rows : List RowI} {n j : Nat} : j ∈ liveJs rows n ↔ j < n ∧ ∃ x, rows[j]? = some x ∧ x.its ≠ [] := by
  simp only [liveJs, List.mem_filter, List.mem_range, liveN]
  cases rows[j]? with
  | none => simp
  | some x => simp
section
open EpsOn
theorem wfLook_con (w : World) (q qd sa ra fa la : Nat) (T : WfT) (t1 t6 : Nat) (unit time : Int) (ep2 ep3 : Nat) (fvs : List Value) (rows : List RowI) (F : Nat → Int) (R : Led)
    (hn : rows.length ≤ 100) (hz : ∀ x ∈ rows, x.its.length ≤ 1000)
    (m1 : (q, instObj 217 qd) ∈ R) (m2 : (qd, wfD T t1 t6 unit sa ra fa la time) ∈ R) (m3 : (ra, listOf (rowRefs rows).toArray ep2) ∈ R) (m4 : (fa, listOf fvs.toArray ep3) ∈ R) (m6 : ∀ p ∈ rowsObjs rows, p ∈ R)
    (hF : ∀ (i : Nat) x, rows[i]? = some x → x.its ≠ [] → ∃ (fk : Nat) (fks : List Value) (fep t0 : Nat), fvs[i]? = some (.ref fk) ∧ (fk, listOf (Value.int (F i) t0 :: fks).toArray fep) ∈ R)
    (hT : ∀ (i : Nat) x, rows[i]? = some x → x.its ≠ [] → ∃ (a : Nat) (its' : List Value) (size : Int) (ts : Tok) (th : Value), x.its = .ref a :: its' ∧ (a, tupOf #[.int size ts, th] 0) ∈ R) :
   Con w 201 [.ref q, .none] 3 300 R
     (fun v post => ((∀ x ∈ rows, x.its = []) ∧ v = .none ∧ post = R) ∨ ∃ (k : Nat) (x : RowI) (a : Nat) (its' : List Value) (size : Int) (ts tk : Tok) (th : Value) (y : Nat), rows[k]? = some x ∧ x.its = .ref a :: its' ∧ (a, tupOf #[.int size ts, th] 0) ∈ R ∧
        (∀ (j : Nat) x', rows[j]? = some x' → x'.its ≠ [] → ¬ klt (F j, (j : Int)) (F k, (k : Int))) ∧ v = .ref y ∧ post = (y, tupOf #[.int k tk, .int size ts, th] 0) :: R) := by
  revert w q qd sa ra fa la T t1 t6 unit time ep2 ep3 fvs rows F R hn hz m1 m2 m3 m4 m6 hF hT
  intro w q qd sa ra fa la T t1 t6 unit time ep2 ep3 fvs rows F R hn hz m1 m2 m3 m4 m6 hF hT
  refine con_cx ?_
  k_extra "cx"
  intro BB F0 X N TT hk hd hu hret
  refine wpAny_call ?_
  k_dflt (cell_ask (true, [(Str.ofString "self", .ref q), (Str.ofString "allowed", .none)]))
  rename_i g1 L1 h1 tk1 FG1 F1 B1 X1 T1 hin1 l11 c1 c2 d1 d2 N1
  replace F1 : Fr g1 L1 h1 (fun _ => none) := F1
  replace d1 : c1.data = Data.cell (some .none) := d1
  replace d2 : c2.data = Data.cell (some (.ref q)) := d2
  have hrl := rowRefs_length rows
  k_with "con" => (refine hold ?_)
  k_with "restT" => (refine hold ?_)
  k_with "rest" => (refine hold ?_)
  k_with "min" => (refine hold ?_)
  k_steps
  · unfold Hold
    have hc : ((((rowRefs rows).length : Int) - 0).toNat) = rows.length := by rw [hrl]; (first | lia | omega)
    rw [hc]
    refine compRestT_ind (fun i ys news => news = ((L1 + 1 + 1, c1) :: (L1 + 1, c2) :: R) ∧ IntsAre ys ((liveJs rows i).map fun (j : Nat) => (j : Int))) ?turn ?fin _ _ _ _ (Nat.zero_add _) ⟨rfl, .nil⟩
    case turn =>
      intro i ys news v I oI C oC D m₂ h tk E' hi hInv hP hC hx F2 N2 off1 ne1
      obtain ⟨e, hys⟩ := hInv
      rw [e] at N2 off1
      obtain ⟨t, rfl⟩ := hP
      obtain ⟨x, hx1⟩ : ∃ x, rows[i]? = some x := ⟨_, List.getElem?_eq_getElem hi⟩
      obtain ⟨r1, r2, r3⟩ := rowsObjs_mem (List.mem_of_getElem? hx1)
      replace r1 := m6 _ r1
      replace r2 := m6 _ r2
      replace r3 := m6 _ r3
      rw [Int.zero_add] at hx
      k_steps
      unfold Hold
      refine' con_ro (mayGo_con w ra x.r x.rd x.t x.RT x.t1 x.t2 x.t4 x.t5 x.most x.mo x.oct x.drop (i : Int) x.its (rowRefs rows) x.ep ep2 t (by (first | lia | omega)) (by (first | lia | omega)) (by simp [rowRefs, hx1])) ?k1 ?k2 ?k3 ?k4 ?k5 ?kK ?kp ?kd ?ku ?_
      cell_call
      (case kp => lcg_sub)
      intro r' h' tk' hR' F' N'
      subst hR'
      k_steps
      · exact LCg.CompEnd.intro (by assumption) (by assumption) _ (fun p hp => hp) off1 (by trivial) ⟨rfl, by rw [liveJs_no hx1 (by assumption)]; exact hys⟩
      · exact LCg.CompEnd.intro (by assumption) (by assumption) _ (fun p hp => hp) off1 (by trivial) ⟨rfl, by rw [liveJs_yes hx1 (by assumption), List.map_append]; exact ints_snoc hys _ _⟩
    case fin =>
      intro ys news hInv
      obtain ⟨e, hys⟩ := hInv
      subst e
      have hyl := hys.length
      have hjl : (liveJs rows rows.length).length ≤ rows.length := by
        unfold liveJs
        exact Nat.le_trans (List.length_filter_le _ _) (Nat.le_of_eq (List.length_range))
      rw [List.length_map] at hyl
      k_steps
      · refine con_end hret (by assumption) (by assumption) (by assumption) (by assumption) (by assumption) R (fun p hp => .tail _ (.tail _ (.tail _ (.tail _ hp)))) (.inl ⟨fun x hx => ?_, rfl, rfl⟩)
        obtain ⟨j, hj⟩ := List.getElem?_of_mem hx
        by_cases hxe : x.its = []
        · exact hxe
        · exfalso
          have h3 : j ∈ liveJs rows rows.length := liveJs_mem.mpr ⟨(List.getElem?_eq_some_iff.mp hj).1, x, hj, hxe⟩
          have h4 : (liveJs rows rows.length).length = 0 := by rw [← hyl]; simp_all
          rw [List.length_eq_zero_iff.mp h4] at h3
          cases h3
      · rename_i D1 hq0 hq1 ho1 D2 hp2 hFr2 hNew2 hfr2 hemp hp3
        k_steps
        unfold Hold
        refine compRest_ind (fun i zs news => (∀ p ∈ ((D1, LCg.lst ys) :: (L1 + 1 + 1, c1) :: (L1 + 1, c2) :: R), p ∈ news) ∧ zs.length = i ∧
          ∀ (k : Nat) v, zs[k]? = some v → ∃ (a : Nat) (t u : Tok), v = .ref a ∧ (a, tupOf #[.int (F ((liveJs rows rows.length).getD k 0)) t, .int (((liveJs rows rows.length).getD k 0 : Nat) : Int) u] 0) ∈ news) ?turn ?fin _ _ _ _ (Nat.zero_add _) ⟨fun p hp => ?sub, rfl, fun k v hk => ?nov⟩
        case sub => first | exact hp | exact .tail _ hp
        case nov => cases hk
        case turn =>
          intro i zs news v I oI C oC D m₂ h tk E' hi hInv hP hC hx F2 N2 off1 ne1
          obtain ⟨hsub, hzl, hzs⟩ := hInv
          rw [List.size_toArray] at hi
          obtain ⟨t', hv⟩ : ∃ t', v = .int (((liveJs rows rows.length).getD i 0 : Nat) : Int) t' := by
            obtain ⟨t', e⟩ := hys.get i (((liveJs rows rows.length).getD i 0 : Nat) : Int) (by rw [List.getElem?_map, List.getD_eq_getElem?_getD, List.getElem?_eq_getElem (show i < (liveJs rows rows.length).length by (first | lia | omega))]; rfl)
            have hP' : ys.toArray[i]? = some v := hP
            rw [List.getElem?_toArray, e] at hP'
            exact ⟨t', (Option.some.inj hP').symm⟩
          subst hv
          obtain ⟨hj1, x, hj2, hj3⟩ : (liveJs rows rows.length).getD i 0 < rows.length ∧ ∃ x, rows[(liveJs rows rows.length).getD i 0]? = some x ∧ x.its ≠ [] := by
            refine liveJs_mem.mp ?_
            rw [List.getD_eq_getElem?_getD, List.getElem?_eq_getElem (by (first | lia | omega))]
            exact List.getElem_mem _
          obtain ⟨fk, fks, fep, t0, hf1, hf2⟩ := hF _ _ hj2 hj3
          replace hf2 := hsub _ (.tail _ (.tail _ (.tail _ hf2)))
          have n1 := hsub _ (.tail _ (.tail _ (.tail _ m1)))
          have n2 := hsub _ (.tail _ (.tail _ (.tail _ m2)))
          have n4 := hsub _ (.tail _ (.tail _ (.tail _ m4)))
          have nc := hsub _ (.tail _ (.tail _ (.head _)))
          have hz0 : (Value.int (F ((liveJs rows rows.length).getD i 0)) t0 :: fks)[Int.toNat 0]? = some (Value.int (F ((liveJs rows rows.length).getD i 0)) t0) := rfl
          generalize hJ : (liveJs rows rows.length).getD i 0 = J at *
          have hJ1 : ((J : Int)).toNat = J := by (first | lia | omega)
          have hf1' : fvs[((J : Int)).toNat]? = some (.ref fk) := by rw [hJ1]; exact hf1
          k_steps
          · rename_i l2 _ _ _ hl2
            refine LCg.CompEnd.intro (by assumption) (by assumption) ((l2, tupOf #[.int (F J) t0, .int (J : Int) t'] 0) :: news) (fun p hp => ?_) ⟨⟨(Nat.ne_of_lt (hl2 (I, oI) (by k_mem))).symm, (Nat.ne_of_lt (hl2 (C, oC) (by k_mem))).symm, (Nat.ne_of_lt (hl2 (D, LCg.lst zs) (by k_mem))).symm⟩, off1⟩ (Or.inr ⟨_, .tail _ (hsub _ (.head _)), rfl, _, rfl⟩) ⟨fun p hp => .tail _ (hsub p hp), by rw [List.length_append, hzl]; rfl, fun k v hk => ?_⟩
            · rcases List.mem_cons.mp hp with rfl | hp
              · k_mem
              rcases List.mem_cons.mp hp with rfl | hp
              · k_mem
              rcases List.mem_cons.mp hp with rfl | hp
              · k_mem
              rcases List.mem_cons.mp hp with rfl | hp
              · k_mem
              k_mem
            · by_cases hki : k < i
              · rw [List.getElem?_append_left (by (first | lia | omega))] at hk
                obtain ⟨a, t, u, e1, e2⟩ := hzs k v hk
                exact ⟨a, t, u, e1, .tail _ e2⟩
              · have hki2 : k = i := by
                  have := (List.getElem?_eq_some_iff.mp hk).1
                  rw [List.length_append] at this
                  simp at this; (first | lia | omega)
                subst hki2
                rw [List.getElem?_append_right (by (first | lia | omega)), hzl, Nat.sub_self] at hk
                cases hk
                rw [hJ]
                exact ⟨_, _, _, rfl, .head _⟩
        case fin =>
          intro zs news hInv
          obtain ⟨hsub, hzl, hzs⟩ := hInv
          rw [List.size_toArray] at hzl
          k_steps
          unfold Hold
          have hyp : 0 < ys.length := by cases ys with | nil => cases hemp | cons => simp
          refine min_tups (by with_unfolding_all rfl) (by ktr_units) (by assumption) (by assumption) (by k_mem) (fun k => (F ((liveJs rows rows.length).getD k 0), ((liveJs rows rows.length).getD k 0 : Nat))) (fun k v hk => ?_) (by (first | lia | omega)) ?_
          · obtain ⟨a, t, u, e1, e2⟩ := hzs k v hk
            exact ⟨a, t, u, _, e1, by k_mem⟩
          intro i v h' tk' hi hBest F' N'
          obtain ⟨a, t, u, rfl, hm⟩ := hzs i v hi
          have hil : i < (liveJs rows rows.length).length := by
            have := (List.getElem?_eq_some_iff.mp hi).1
            (first | lia | omega)
          obtain ⟨hj1, x, hj2, hj3⟩ : (liveJs rows rows.length).getD i 0 < rows.length ∧ ∃ x, rows[(liveJs rows rows.length).getD i 0]? = some x ∧ x.its ≠ [] := by
            refine liveJs_mem.mp ?_
            rw [List.getD_eq_getElem?_getD, List.getElem?_eq_getElem hil]
            exact List.getElem_mem _
          have hbest : ∀ (j : Nat) x', rows[j]? = some x' → x'.its ≠ [] → ¬ klt (F j, (j : Int)) (F ((liveJs rows rows.length).getD i 0), (((liveJs rows rows.length).getD i 0 : Nat) : Int)) := by
            intro j x' h1 h2
            obtain ⟨k, hk⟩ := List.getElem?_of_mem (liveJs_mem.mpr ⟨(List.getElem?_eq_some_iff.mp h1).1, x', h1, h2⟩)
            have := hBest k (by have := (List.getElem?_eq_some_iff.mp hk).1; (first | lia | omega))
            simpa only [List.getD_eq_getElem?_getD, hk, Option.getD_some] using this
          obtain ⟨a2, its', size, ts, th, ha2, hm2⟩ := hT _ _ hj2 hj3
          obtain ⟨r1, r2, r3⟩ := rowsObjs_mem (List.mem_of_getElem? hj2)
          replace r1 := hsub _ (.tail _ (.tail _ (.tail _ (m6 _ r1))))
          replace r2 := hsub _ (.tail _ (.tail _ (.tail _ (m6 _ r2))))
          replace r3 := hsub _ (.tail _ (.tail _ (.tail _ (m6 _ r3))))
          have n1 := hsub _ (.tail _ (.tail _ (.tail _ m1)))
          have n2 := hsub _ (.tail _ (.tail _ (.tail _ m2)))
          have n3 := hsub _ (.tail _ (.tail _ (.tail _ m3)))
          have n5 := hsub _ (.tail _ (.tail _ (.tail _ hm2)))
          have nc := hsub _ (.tail _ (.tail _ (.head _)))
          have hx0 : x.its[Int.toNat 0]? = some (.ref a2) := by rw [ha2]; rfl
          generalize hJ : (liveJs rows rows.length).getD i 0 = J at *
          have hJ1 : ((J : Int)).toNat = J := by (first | lia | omega)
          have hrr : (rowRefs rows)[((J : Int)).toNat]? = some (.ref x.r) := by rw [hJ1]; simp [rowRefs, hj2]
          k_steps
          refine con_end hret (by assumption) (by assumption) (by assumption) (by assumption) (by assumption) ((_, tupOf #[.int (J : Int) u, .int size ts, th] 0) :: R) (fun p hp => ?_) (.inr ⟨J, x, a2, its', size, ts, u, th, _, hj2, ha2, hm2, hbest, rfl, rfl⟩)
          rcases List.mem_cons.mp hp with rfl | hp
          · k_mem
          · exact .tail _ (.tail _ (.tail _ (hsub p (.tail _ (.tail _ (.tail _ hp))))))
      · rw [List.size_toArray, hyl, sizeLine_eq]; (first | lia | omega)
  · rw [hrl, sizeLine_eq]; (first | lia | omega)
end
end
-- BPut
example : True := by
  w_top off
  trivial
section
noncomputable abbrev bookKvs (wa lia rwa ha ea : Nat) : List (Str × Value) := [(Str.ofString "weights", .ref wa), (Str.ofString "limits", .ref lia), (Str.ofString "rows", .ref rwa), (Str.ofString "here", .ref ha), (Str.ofString "ends", .ref ea)]
set_option genInjectivity false in
structure BRw where
  (a ep : Nat) (vs : List Value)
  deriving Inhabited
noncomputable def brwRefs (xs : List BRw) : List Value := xs.map fun x => Value.ref x.a
inductive FrsAre (R : Led) : List Value → List (Int × Int) → Prop
  | nil : FrsAre R [] []
  | cons {e : Nat} {t u : Tok} {x : Int × Int} {vs : List Value} {xs : List (Int × Int)} : (e, tupOf #[.int x.1 t, .int x.2 u] 0) ∈ R → FrsAre R vs xs → FrsAre R (.ref e :: vs) (x :: xs)
theorem FrsAre.mono {R R' : Led} {vs xs} (h : FrsAre R vs xs) (k : ∀ (a : Nat) x, (a, tupOf x 0) ∈ R → (a, tupOf x 0) ∈ R') : FrsAre R' vs xs := by
  induction h with
  | nil => exact .nil
  | cons h _ ih => exact .cons (k _ _ h) ih
theorem FrsAre.snoc {R : Led} {vs xs} (h : FrsAre R vs xs) {e : Nat} {t u : Tok} {x : Int × Int} (hm : (e, tupOf #[.int x.1 t, .int x.2 u] 0) ∈ R) : FrsAre R (vs ++ [.ref e]) (xs ++ [x]) := by
  induction h with
  | nil => exact .cons hm .nil
  | cons h _ ih => exact .cons h ih
theorem FrsAre.len {R : Led} {vs xs} (h : FrsAre R vs xs) : vs.length = xs.length := by
  induction h with
  | nil => rfl
  | cons _ _ ih => simp [ih]
theorem FrsAre.at {R : Led} {vs xs} (h : FrsAre R vs xs) : ∀ {i : Nat} {x : Int × Int}, xs[i]? = some x → ∃ (e : Nat) (t u : Tok), vs[i]? = some (.ref e) ∧ (e, tupOf #[.int x.1 t, .int x.2 u] 0) ∈ R := by
  induction h with
  | nil => intro i x h; simp at h
  | cons h _ ih =>
    intro i x hx
    cases i with
    | zero => simp at hx; subst hx; exact ⟨_, _, _, rfl, h⟩
    | succ i => simp at hx; exact ih hx
theorem FrsAre.set {R : Led} {vs xs} (h : FrsAre R vs xs) {e : Nat} {t u : Tok} {x : Int × Int} (hm : (e, tupOf #[.int x.1 t, .int x.2 u] 0) ∈ R) : ∀ k, FrsAre R (vs.set k (.ref e)) (xs.set k x) := by
  induction h with
  | nil => intro k; exact .nil
  | cons h h2 ih =>
    intro k
    cases k with
    | zero => exact .cons hm h2
    | succ k => exact .cons h (ih k)
theorem off1_mem {D : Nat} : ∀ {l : Led}, LCg.Off1 D l → ∀ p ∈ l, p.1 ≠ D
  | [], _, _, h => nomatch h
  | _ :: _, x, p, h => by
    rcases List.mem_cons.mp h with rfl | h
    · exact x.1
    · exact off1_mem x.2 p h
noncomputable abbrev bookEmpty (rws : List BRw) : Prop := ∀ x ∈ rws, x.vs = []
noncomputable def grt (x y : Int × Int) : Int × Int := if y.1 * x.2 ≤ x.1 * y.2 then x else y
noncomputable def bNew (here en : Int × Int) (weight many : Int) : Int × Int := ((grt here en).1 * weight + many * (grt here en).2, (grt here en).2 * weight)
section
open EpsOn
theorem bPut_con (w : World) (b wa lia rwa ha ea rk lk : Nat) (bo : Obj) (wvs lvs evs vs : List Value) (rws : List BRw) (its : List BIt) (epw epl epr ep1 ep2 : Nat) (weights : List Int) (ends : List (Int × Int)) (here : Int × Int) (ht hu' lt1 lt2 kt mt : Tok) (k : Nat) (many most mo weight : Int) (name : Value) (en : Int × Int) (R : Led)
    (hb : bo.IsDictOf (PySem.strKind pw w) (bookKvs wa lia rwa ha ea)) (hk : k < rws.length) (hn : rws.length ≤ 100)
    (m1 : (wa, listOf wvs.toArray epw) ∈ R) (m2 : (lia, listOf lvs.toArray epl) ∈ R) (m3 : (rwa, listOf (brwRefs rws).toArray epr) ∈ R) (m4 : (ha, tupOf #[.int here.1 ht, .int here.2 hu'] 0) ∈ R) (m5 : lvs[k]? = some (.ref lk)) (m6 : (lk, tupOf #[.int most lt1, .int mo lt2] 0) ∈ R)
    (hw : IntsAre wvs weights) (hwl : weights.length = rws.length) (hwk : weights[k]? = some weight) (hrk : rws[k]? = some ⟨rk, ep2, vs⟩) (hrows : ∀ x ∈ rws, (x.a, listOf x.vs.toArray x.ep) ∈ ((rk, listOf vs.toArray ep2) :: R)) (hz : ∀ x ∈ rws, x.vs.length ≤ 1000)
    (he : FrsAre R evs ends) (hel : ends.length = rws.length) (hek : ends[k]? = some en) (hi : BItsAre R vs its)
    (hh1 : 0 ≤ here.1 ∧ here.1 ≤ 1000000000000000000) (hh2 : 0 ≤ here.2 ∧ here.2 ≤ 1000000000000000000) (hh3 : 0 ≤ en.1 ∧ en.1 ≤ 1000000000000000000) (hh4 : 0 ≤ en.2 ∧ en.2 ≤ 1000000000000000000) (hm : 0 ≤ many ∧ many ≤ 1000) (hw1 : 0 ≤ weight ∧ weight ≤ 1000)
    (hoff : OwnOff R [b, ea, rk]) (D : [b, ea, rk].Nodup) :
   Con w 364 [.ref b, .int k kt, .int many mt, name] 3 300 ([(b, bo), (ea, listOf evs.toArray ep1), (rk, listOf vs.toArray ep2)] ++ R)
     (fun v post => ∃ (bo' : Obj) (ha' ea' : Nat) (evs' vs' : List Value) (R' : Led) (ep1' ep2' : Nat) (ht' hu' : Tok) (ends' ends2 : List (Int × Int)) (here' : Int × Int),
        post = (b, bo') :: (ea', listOf evs'.toArray ep1') :: (rk, listOf vs'.toArray ep2') :: R' ∧ bo'.IsDictOf (PySem.strKind pw w) (bookKvs wa lia rwa ha' ea') ∧ (∀ p ∈ R, p ∈ R') ∧
        (ea' = ea ∨ ∀ q ∈ ([(b, bo), (ea, listOf evs.toArray ep1), (rk, listOf vs.toArray ep2)] ++ R : Led), q.1 ≠ ea') ∧ FrsAre R' evs' ends2 ∧ (ha', tupOf #[.int here'.1 ht', .int here'.2 hu'] 0) ∈ R' ∧
        (bookEmpty rws → here' = (0, 1) ∧ ends' = List.replicate rws.length (0, 1)) ∧ (¬ bookEmpty rws → here' = here ∧ ends' = ends) ∧
        ((((its.length : Int) < most ∧ bOct its + many ≤ mo) ∧ v = .bool true ∧ ends2 = ends'.set k (bNew here' (ends'.getD k (0, 0)) weight many) ∧ BItsAre R' vs' (its ++ [⟨(bNew here' (ends'.getD k (0, 0)) weight many).1, (bNew here' (ends'.getD k (0, 0)) weight many).2, many, name⟩])) ∨
         (¬ ((its.length : Int) < most ∧ bOct its + many ≤ mo) ∧ v = .bool false ∧ ends2 = ends' ∧ vs' = vs ∧ ep2' = ep2))) := by
  revert w b wa lia rwa ha ea rk lk bo wvs lvs evs vs rws its epw epl epr ep1 ep2 weights ends here ht hu' lt1 lt2 kt mt k many most mo weight name en R hb hk hn m1 m2 m3 m4 m5 m6 hw hwl hwk hrk hrows hz he hel hek hi hh1 hh2 hh3 hh4 hm hw1 hoff D
  intro w b wa lia rwa ha ea rk lk bo wvs lvs evs vs rws its epw epl epr ep1 ep2 weights ends here ht hu' lt1 lt2 kt mt k many most mo weight name en R hb hk hn m1 m2 m3 m4 m5 m6 hw hwl hwk hrk hrows hz he hel hek hi hh1 hh2 hh3 hh4 hm hw1 hoff D
  refine con_cx ?_
  (try simp only [List.cons_append, List.nil_append])
  k_extra "cx"
  intro BB F0 X N TT hk' hd hu hret
  obtain ⟨e1, e2, e3⟩ := nd3 D
  refine wpAny_call ?_
  k_dflt (cell_ask [(Str.ofString "book", .ref b), (Str.ofString "k", .int k kt), (Str.ofString "many", .int many mt), (Str.ofString "name", name)])
  rename_i g1 L1 h1 FG1 F1 N1 B1 X1 T1 hin1 l11
  k_with "con" => (refine hold ?_)
  k_with "restT" => (refine hold ?_)
  k_with "rest" => (refine hold ?_)
  have hRe : ∀ ee n, (ee, listOf #[] n) ∈ R → True := fun _ _ _ => trivial
  refine wpAny_execs_cons (wpAny_mono (Q := fun f s' => Hide (f = Flow.next ∧ ∃ (bo' : Obj) (ha' ea' : Nat) (evs' : List Value) (R' : Led) (ep1' : Nat) (h' : Heap) (tk' : Nat) (ht' hu' : Tok) (ends' : List (Int × Int)) (here' : Int × Int), s' = { s with heap := h', toks := tk' } ∧
      Fr g1 L1 h' (fun y => List.lookup y [(Str.ofString "book", .ref b), (Str.ofString "k", .int k kt), (Str.ofString "many", .int many mt), (Str.ofString "name", name)].reverse) ∧
      News g1 L1 h' ((b, bo') :: (ea', listOf evs'.toArray ep1') :: (rk, listOf vs.toArray ep2) :: R') ∧ (∀ p ∈ R, p ∈ R') ∧ (∀ p ∈ R', p ∈ R ∨ ∀ q ∈ ([(b, bo), (ea, listOf evs.toArray ep1), (rk, listOf vs.toArray ep2)] ++ R : Led), q.1 < p.1) ∧ bo'.IsDictOf (PySem.strKind pw w) (bookKvs wa lia rwa ha' ea') ∧
      OwnOff R' [b, ea', rk] ∧ (ea' = ea ∨ ∀ q ∈ ([(b, bo), (ea, listOf evs.toArray ep1), (rk, listOf vs.toArray ep2)] ++ R : Led), q.1 ≠ ea') ∧ FrsAre R' evs' ends' ∧ (ha', tupOf #[.int here'.1 ht', .int here'.2 hu'] 0) ∈ R' ∧
      (bookEmpty rws → here' = (0, 1) ∧ ends' = List.replicate rws.length (0, 1)) ∧ (¬ bookEmpty rws → here' = here ∧ ends' = ends))) ?first ?rest fun _ _ z => z)
  case first =>
    k_steps
    · unfold Hold
      refine compRestT_ind (fun i ys news => news = ((b, bo) :: (ea, listOf evs.toArray ep1) :: (rk, listOf vs.toArray ep2) :: R) ∧ (ys.isEmpty = true ↔ ∀ (j : Nat) x, j < i → rws[j]? = some x → x.vs = [])) ?turn ?fin _ _ _ _ (Nat.zero_add _) ⟨rfl, by simp⟩
      case turn =>
        intro i ys news v I oI C oC D m₂ h tk E' hi' hInv hP hC hx F2 N2 off1 ne1
        obtain ⟨e, hys⟩ := hInv
        rw [e] at N2 off1
        have hP' : (brwRefs rws).toArray[i]? = some v := hP
        rw [List.getElem?_toArray] at hP'
        obtain ⟨x, hx1, rfl⟩ : ∃ x, rws[i]? = some x ∧ v = .ref x.a := by
          simp only [brwRefs, List.getElem?_map, Option.map_eq_some_iff] at hP'
          obtain ⟨x, h1, h2⟩ := hP'
          exact ⟨x, h1, h2.symm⟩
        have hxm := hrows x (List.mem_of_getElem? hx1)
        have hys' : ∀ (hxe : x.vs.isEmpty = true), (ys.isEmpty = true ↔ ∀ (j : Nat) x, j < i + 1 → rws[j]? = some x → x.vs = []) := by
          intro hxe
          rw [hys]
          constructor
          · intro h j y hj hy
            rcases Nat.lt_succ_iff_lt_or_eq.mp hj with hj | rfl
            · exact h j y hj hy
            · rw [hx1] at hy; cases hy; exact List.isEmpty_iff.mp hxe
          · intro h j y hj hy
            exact h j y (by (first | lia | omega)) hy
        have hys'' : ∀ z, x.vs.isEmpty = false → ((ys ++ [z]).isEmpty = true ↔ ∀ (j : Nat) x, j < i + 1 → rws[j]? = some x → x.vs = []) := by
          intro z hxe
          constructor
          · intro h; simp at h
          · intro h
            have := h i x (by (first | lia | omega)) hx1
            rw [this] at hxe; cases hxe
        clear hrows
        k_steps
        · exact LCg.CompEnd.intro (by assumption) (by assumption) _ (by lcg_sub) off1 (Or.inr ⟨_, .tail _ (.tail _ (.tail _ m3)), rfl, _, rfl⟩) ⟨rfl, hys' (by assumption)⟩
        · exact LCg.CompEnd.intro (by assumption) (by assumption) _ (by lcg_sub) off1 (Or.inr ⟨_, .tail _ (.tail _ (.tail _ m3)), rfl, _, rfl⟩) ⟨rfl, hys'' _ (by assumption)⟩
      case fin =>
        intro ys news hInv
        obtain ⟨e, hys⟩ := hInv
        subst e
        have hsz : (brwRefs rws).toArray.size = rws.length := by simp [brwRefs]
        rw [hsz] at hys
        have hye : ys.isEmpty = true ↔ bookEmpty rws := by
          rw [hys]
          constructor
          · intro h x hx
            obtain ⟨j, hj⟩ := List.getElem?_of_mem hx
            exact h j x (List.getElem?_eq_some_iff.mp hj).1 hj
          · intro h j x _ hj
            exact h x (List.mem_of_getElem? hj)
        k_steps
        · rename News _ _ _ _ => Nz
          rename_i l0 h0 hFz hfr0 g0
          have hfr : ∀ p ∈ ((b, bo) :: (ea, listOf evs.toArray ep1) :: (rk, listOf vs.toArray ep2) :: R : Led), p.1 < l0 := fun p hp => hfr0 p (by k_mem)
          unfold Hold
          refine compRest_ind (fun i zs news => ∃ T : Led, (∀ p ∈ T ++ ((l0, tupOf #[.int 0 tk, .int 1 (tk + 1)] 0) :: (b, bo) :: (ea, listOf evs.toArray ep1) :: (rk, listOf vs.toArray ep2) :: R), p ∈ news) ∧
            (∀ p ∈ T, ∀ q ∈ ((l0, tupOf #[.int 0 tk, .int 1 (tk + 1)] 0) :: (b, bo) :: (ea, listOf evs.toArray ep1) :: (rk, listOf vs.toArray ep2) :: R : Led), q.1 < p.1) ∧ FrsAre T zs (List.replicate i (0, 1))) ?turn2 ?fin2 _ _ _ _ (Nat.zero_add _) ⟨[], ?ini, fun p hp => (nomatch hp), .nil⟩
          case ini => lcg_sub
          case turn2 =>
            intro i zs news v I oI C oC D m₂ h tkq E' hi' hInv hP hC hx F2 N2 off1 ne1
            obtain ⟨T, e, hT1, hT2⟩ := hInv
            k_steps
            rename_i l2 h2 hF2 hN2 hfr2
            refine LCg.CompEnd.intro (by assumption) (by assumption) ((l2, tupOf #[.int 0 tkq, .int 1 (tkq + 1)] 0) :: news) (fun p hp => ?_) ⟨⟨(Nat.ne_of_lt (hfr2 (I, oI) (by k_mem))).symm, (Nat.ne_of_lt (hfr2 (C, oC) (by k_mem))).symm, (Nat.ne_of_lt (hfr2 (D, LCg.lst zs) (by k_mem))).symm⟩, off1⟩ (Or.inr ⟨_, .tail _ (e _ (List.mem_append_right _ (by k_mem))), rfl, _, rfl⟩)
              ⟨(l2, tupOf #[.int 0 tkq, .int 1 (tkq + 1)] 0) :: T, fun p hp => ?_, fun p hp => ?_, ?_⟩
            · rcases List.mem_cons.mp hp with rfl | hp
              · k_mem
              rcases List.mem_cons.mp hp with rfl | hp
              · k_mem
              rcases List.mem_cons.mp hp with rfl | hp
              · k_mem
              rcases List.mem_cons.mp hp with rfl | hp
              · exact .head _
              k_mem
            · rcases List.mem_cons.mp hp with rfl | hp
              · exact .head _
              · exact .tail _ (e p hp)
            · rcases List.mem_cons.mp hp with rfl | hp
              · exact fun q hq => hfr2 q (.tail _ (.tail _ (.tail _ (e q (List.mem_append_right _ hq)))))
              · exact hT1 p hp
            · rw [List.replicate_succ']
              exact (hT2.mono fun a x hx => .tail _ hx).snoc (.head _)
          case fin2 =>
            intro zs news hInv
            obtain ⟨T, e, hT1, hT2⟩ := hInv
            have hsz2 : wvs.toArray.size = rws.length := by rw [List.size_toArray, hw.length, hwl]
            rw [hsz2] at hT2
            intro D3 h3 tk3 F3 N3 off3
            have off4 := off1_mem off3
            have N4 : News g1 L1 h3 ((b, bo) :: (D3, LCg.lst zs) :: (rk, listOf vs.toArray ep2) :: ((l0, tupOf #[.int 0 tk, .int 1 (tk + 1)] 0) :: (T ++ R))) := fun p hp => N3 p (by
              rcases List.mem_cons.mp hp with rfl | hp
              · exact .tail _ (e _ (List.mem_append_right _ (by k_mem)))
              rcases List.mem_cons.mp hp with rfl | hp
              · exact .head _
              rcases List.mem_cons.mp hp with rfl | hp
              · exact .tail _ (e _ (List.mem_append_right _ (by k_mem)))
              rcases List.mem_cons.mp hp with rfl | hp
              · exact .tail _ (e _ (List.mem_append_right _ (by k_mem)))
              rcases List.mem_append.mp hp with hp | hp
              · exact .tail _ (e _ (List.mem_append_left _ hp))
              · exact .tail _ (e _ (List.mem_append_right _ (by k_mem))))
            have d3 : ∀ q ∈ ([(b, bo), (ea, listOf evs.toArray ep1), (rk, listOf vs.toArray ep2)] ++ R : Led), q.1 ≠ D3 := fun q hq => off4 q (e q (List.mem_append_right _ (.tail _ hq)))
            have hofR : OwnOff ((l0, tupOf #[.int 0 tk, .int 1 (tk + 1)] 0) :: (T ++ R)) [b, D3, rk] := by
              intro p hp c hc
              simp only [List.mem_cons, List.not_mem_nil, or_false] at hc
              rcases List.mem_cons.mp hp with rfl | hp
              · rcases hc with rfl | rfl | rfl
                · exact (Nat.ne_of_lt (hfr _ (.head _))).symm
                · exact off4 _ (e _ (List.mem_append_right _ (.head _)))
                · exact (Nat.ne_of_lt (hfr _ (.tail _ (.tail _ (.head _))))).symm
              rcases List.mem_append.mp hp with hp | hp
              · rcases hc with rfl | rfl | rfl
                · exact (Nat.ne_of_lt (hT1 p hp _ (.tail _ (.head _)))).symm
                · exact off4 _ (e _ (List.mem_append_left _ hp))
                · exact (Nat.ne_of_lt (hT1 p hp _ (.tail _ (.tail _ (.tail _ (.head _)))))).symm
              · rcases hc with rfl | rfl | rfl
                · exact hoff p hp _ (.head _)
                · exact d3 _ (.tail _ (.tail _ (.tail _ hp)))
                · exact hoff p hp _ (.tail _ (.tail _ (.head _)))
            have hnew : ∀ p ∈ ((l0, tupOf #[.int 0 tk, .int 1 (tk + 1)] 0) :: (T ++ R) : Led), p ∈ R ∨ ∀ q ∈ ([(b, bo), (ea, listOf evs.toArray ep1), (rk, listOf vs.toArray ep2)] ++ R : Led), q.1 < p.1 := by
              intro p hp
              rcases List.mem_cons.mp hp with rfl | hp
              · exact .inr hfr
              rcases List.mem_append.mp hp with hp | hp
              · exact .inr fun q hq => hT1 p hp q (.tail _ hq)
              · exact .inl hp
            have hl0 : (l0, tupOf #[.int 0 tk, .int 1 (tk + 1)] 0) ∈ ((l0, tupOf #[.int 0 tk, .int 1 (tk + 1)] 0) :: (T ++ R) : Led) := .head _
            have hRR : ∀ p ∈ R, p ∈ ((l0, tupOf #[.int 0 tk, .int 1 (tk + 1)] 0) :: (T ++ R) : Led) := fun p hp => .tail _ (List.mem_append_right _ hp)
            have hfrs : FrsAre ((l0, tupOf #[.int 0 tk, .int 1 (tk + 1)] 0) :: (T ++ R)) zs (List.replicate rws.length (0, 1)) := hT2.mono fun a x hx => .tail _ (List.mem_append_left _ hx)
            have f1 : NeA b D3 := d3 _ (.head _)
            have f2 : NeA rk D3 := d3 _ (.tail _ (.tail _ (.head _)))
            generalize hRg : ((l0, tupOf #[.int 0 tk, .int 1 (tk + 1)] 0) :: (T ++ R) : Led) = R' at *
            clear N3 Nz off3 e hT1 hoff
            have hb2 := hye.mp (by assumption)
            k_steps
            exact ⟨rfl, _, l0, D3, zs, R', _, _, _, _, _, List.replicate rws.length (0, 1), (0, 1), rfl, by assumption, kst_newsOf (by assumption) (by lcg_sub), hRR, hnew, by assumption, hofR, .inr d3, hfrs, hl0, fun _ => ⟨rfl, rfl⟩, fun h => absurd hb2 h⟩
        · rw [List.size_toArray, hw.length, hwl, sizeLine_eq]; (first | lia | omega)
        · exact ⟨rfl, bo, ha, ea, evs, R, ep1, _, _, ht, hu', ends, here, rfl, by assumption, kst_newsOf (by assumption) (by lcg_sub), fun p hp => hp, fun p hp => .inl hp, hb, hoff, .inl rfl, he, m4, fun h => absurd (hye.mpr h) (by simp [*]), fun _ => ⟨rfl, rfl⟩⟩
    · rw [List.size_toArray, sizeLine_eq, brwRefs, List.length_map]; (first | lia | omega)
  case rest =>
    intro f s' hM
    obtain ⟨rfl, bo', ha', ea', evs', R', ep1', h2, tk2, ht', hu2, ends', here', rfl, F2, N2, hRR, hnew, hb', hoff', hea, he', hh', c1, c2⟩ := hM
    clear F1 N1
    have hsz1 : (brwRefs rws)[((k : Int)).toNat]? = some (.ref rk) := by rw [Int.toNat_natCast]; simp [brwRefs, hrk]
    have hsz2 : lvs[((k : Int)).toNat]? = some (.ref lk) := by rw [Int.toNat_natCast]; exact m5
    have hel' : ends'.length = rws.length := by
      by_cases hz : bookEmpty rws
      · rw [(c1 hz).2]; simp
      · rw [(c2 hz).2]; exact hel
    obtain ⟨en', hen'⟩ : ∃ en', ends'[k]? = some en' := ⟨_, List.getElem?_eq_getElem (by (first | lia | omega))⟩
    have hbnd : (0 ≤ here'.1 ∧ here'.1 ≤ 1000000000000000000) ∧ (0 ≤ here'.2 ∧ here'.2 ≤ 1000000000000000000) ∧ (0 ≤ en'.1 ∧ en'.1 ≤ 1000000000000000000) ∧ (0 ≤ en'.2 ∧ en'.2 ≤ 1000000000000000000) := by
      by_cases hz : bookEmpty rws
      · rw [(c1 hz).2, List.getElem?_replicate_of_lt hk] at hen'
        cases hen'
        rw [(c1 hz).1]
        (first | lia | omega)
      · rw [(c2 hz).2, hek] at hen'
        cases hen'
        rw [(c2 hz).1]
        exact ⟨hh1, hh2, hh3, hh4⟩
    obtain ⟨q1, q2, q3, q4⟩ := hbnd
    obtain ⟨ek, et, eu, hev, hem⟩ := he'.at hen'
    have hev2 : evs'[((k : Int)).toNat]? = some (.ref ek) := by rw [Int.toNat_natCast]; exact hev
    obtain ⟨wt, hwv⟩ := hw.get k weight hwk
    have hwv2 : wvs[((k : Int)).toNat]? = some (.int weight wt) := by rw [Int.toNat_natCast]; exact hwv
    have hevl : evs'.length = rws.length := by rw [he'.len, hel']
    obtain ⟨f1, f2, f3⟩ : NeA b ea' ∧ NeA b rk ∧ NeA ea' rk := by
      refine ⟨?_, e2, ?_⟩
      · rcases hea with e | e
        · rw [e]; exact e1
        · exact e _ (.head _)
      · rcases hea with e | e
        · rw [e]; exact e3
        · exact Ne.symm (e _ (.tail _ (.tail _ (.head _))))
    have n1 := hRR _ m1
    have n2 := hRR _ m2
    have n3 := hRR _ m3
    have n6 := hRR _ m6
    have hi' : BItsAre ((rk, listOf vs.toArray ep2) :: R') vs its := hi.mono fun a x hx => .tail _ (hRR _ hx)
    have hvl : vs.length ≤ 1000 := hz _ (List.mem_of_getElem? hrk)
    k_steps
    · unfold Hold
      refine' con_ro (room_con w rk lk ep2 vs its most mo many lt1 lt2 mt ((rk, listOf vs.toArray ep2) :: R') (.head _) (.tail _ n6) hi' hvl) ?k1 ?k2 ?k3 ?k4 ?k5 ?kK ?kp ?kd ?ku ?_
      cell_call
      (case kp => lcg_sub)
      intro r' h' tk' hR' F' N'
      subst hR'
      k_steps
      · unfold Hold
        refine' con_ro (greater_con w ha' ek here'.1 here'.2 en'.1 en'.2 ht' hu2 et eu q1.1 q1.2 q2.1 q2.2 q3.1 q3.2 q4.1 q4.2) ?k1 ?k2 ?k3 ?k4 ?k5 ?kK ?kp ?kd ?ku ?_
        cell_call
        (case kp => lcg_sub)
        intro r' h' tk' hR' F' N'
        obtain ⟨g, bg, gt, gu, rfl, hgm, hg, hg1, hg2⟩ : ∃ (g : Int × Int) (bg : Nat) (gt gu : Tok), r' = .ref bg ∧ (bg, tupOf #[.int g.1 gt, .int g.2 gu] 0) ∈ R' ∧ g = grt here' en' ∧ (0 ≤ g.1 ∧ g.1 ≤ 1000000000000000000) ∧ (0 ≤ g.2 ∧ g.2 ≤ 1000000000000000000) := by
          unfold grt
          by_cases hc : en'.1 * here'.2 ≤ here'.1 * en'.2
          · rw [if_pos hc] at hR'
            exact ⟨here', ha', ht', hu2, hR', hh', by rw [if_pos hc], q1, q2⟩
          · rw [if_neg hc] at hR'
            exact ⟨en', ek, et, eu, hR', hem, by rw [if_neg hc], q3, q4⟩
        clear hR' hrows
        k_steps
        refine' con_end hret (by assumption) (by assumption) (by assumption) (by assumption) (by assumption) ((b, bo') :: (ea', listOf (evs'.set ((k : Int)).toNat (.ref _)).toArray _) :: (rk, listOf (vs ++ [Value.ref _]).toArray _) :: (_, tupOf #[.ref _, .int many mt, name] 0) :: (_, tupOf #[.int (g.1 * weight + many * g.2) _, .int (g.2 * weight) _] 0) :: R') ?bsub ?bpost
        case bsub => lcg_sub
        case bpost =>
          have hnw : bNew here' (ends'.getD k (0, 0)) weight many = (g.1 * weight + many * g.2, g.2 * weight) := by
            unfold bNew
            rw [List.getD_eq_getElem?_getD, hen', Option.getD_some, ← hg]
          refine ⟨bo', ha', ea', _, _, _, _, _, ht', hu2, ends', _, here', rfl, hb', fun p hp => .tail _ (.tail _ (hRR p hp)), hea, ?_, .tail _ (.tail _ hh'), c1, c2, .inl ⟨by assumption, rfl, rfl, ?_⟩⟩
          · rw [Int.toNat_natCast]
            exact FrsAre.set (he'.mono fun a x hx => .tail _ (.tail _ hx)) (x := bNew here' (ends'.getD k (0, 0)) weight many) (by rw [hnw]; exact .tail _ (.head _)) k
          · rw [hnw]
            exact BItsAre.snoc (hi.mono fun a x hx => .tail _ (.tail _ (hRR _ hx))) (.head _) (.tail _ (.head _))
      · refine con_end hret (by assumption) (by assumption) (by assumption) (by assumption) (by assumption) _ (fun p hp => hp) ⟨bo', ha', ea', evs', vs, R', ep1', ep2, ht', hu2, ends', ends', here', rfl, hb', hRR, hea, he', hh', c1, c2, .inr ⟨by assumption, rfl, rfl, rfl, rfl⟩⟩
end
end
-- WfA
example : True := by
  w_top off
  trivial
section
theorem con_weaken {w : World} {f : Addr} {vs : List Value} {dn dn' un0 un1 : Nat} {pre pre' : Led} {Post Post' : Value → Led → Prop} (C : Con w f vs dn un0 pre' Post') (hs : ∀ p ∈ pre', p ∈ pre) (hP : ∀ v post, Post' v post → Post v post) (hdn : dn ≤ dn') (hun : un0 ≤ un1) : Con w f vs dn' un1 pre Post := by
  unfold Con
  intro p loose mean mg mb dp un gd cn cs a ccd cl outer A₀ base h₀ L m s Q E B F X N T hk hd hu hret
  have hss : ∀ b : Addr, b ∈ pre'.map (·.1) → b ∈ pre.map (·.1) := fun b hb => by
    obtain ⟨q, h1, rfl⟩ := List.mem_map.mp hb
    exact List.mem_map_of_mem (hs q h1)
  refine C _ _ _ _ _ _ _ _ _ _ _ _ _ _ _ _ _ _ _ _ _ _ B F X (fun q hq => N q (hs q hq)) T hk (by (first | lia | omega)) (by (first | lia | omega)) fun r post h' tk' hR F' N' keep fresh => ?_
  exact hret r post h' tk' (hP _ _ hR) F' N' (fun b o e hn => keep b o e fun hb => hn (hss b hb)) fun q hq => (fresh q hq).imp (hss q.1) id
noncomputable def Funl (R : Led) : Prop := ∀ (a : Nat) o o', (a, o) ∈ R → (a, o') ∈ R → o = o'
theorem con_fun {w : World} {f : Addr} {vs : List Value} {dn un0 : Nat} {pre : Led} {Post : Value → Led → Prop} (C : Funl pre → Con w f vs dn un0 pre Post) : Con w f vs dn un0 pre Post := by
  unfold Con
  intro p loose mean mg mb dp un gd cn cs a ccd cl outer A₀ base h₀ L m s Q E B F X N T hk hd hu hret
  refine C (fun a o o' h1 h2 => ?_) _ _ _ _ _ _ _ _ _ _ _ _ _ _ _ _ _ _ _ _ _ _ B F X N T hk hd hu hret
  have z1 := (N _ h1).1
  have z2 := (N _ h2).1
  exact Option.some.inj (z1.symm.trans z2)
theorem Funl.ne {R : Led} (h : Funl R) {a b : Nat} {o o' : Obj} (ha : (a, o) ∈ R) (hb : (b, o') ∈ R) (e : (okind o == okind o') = false := by rfl) : a ≠ b := by
  intro q
  subst q
  rw [h _ _ _ ha hb] at e
  simp at e
noncomputable def rest (mu : List Nat) (R : Led) : Led := R.filter fun p => !(mu.contains p.1)
theorem rest_off (mu : List Nat) (R : Led) : OwnOff (rest mu R) mu := fun p hp b hb e => by
  have := (List.mem_filter.mp hp).2
  rw [e] at this
  simp at this
  exact this hb
theorem rest_sub {mu : List Nat} {R : Led} : ∀ p ∈ rest mu R, p ∈ R := fun p hp => (List.mem_filter.mp hp).1
theorem rest_mem {mu : List Nat} {R : Led} {a : Nat} {o : Obj} (h : (a, o) ∈ R) (hn : ∀ b ∈ mu, a ≠ b) : (a, o) ∈ rest mu R :=
  List.mem_filter.mpr ⟨h, by simp; exact fun hb => hn _ hb rfl⟩

structure It where
  (fin size : Int) (th : Value)
  deriving Inhabited
structure RowA where
  (most mo : Int) (its : List It)
  deriving Inhabited
structure WfA where
  (rows : List RowA) (lasts steps : List Int) (time : Int)
  deriving Inhabited
noncomputable def RowA.oct (a : RowA) : Int := (a.its.map It.size).sum
inductive ItsAre (R : Led) : List Value → List It → Prop
  | nil : ItsAre R [] []
  | cons {ad : Nat} {ts : Tok} {it : It} {vs : List Value} {its : List It} : (ad, tupOf #[.int it.size ts, it.th] 0) ∈ R → ItsAre R vs its → ItsAre R (.ref ad :: vs) (it :: its)
theorem ItsAre.len {R : Led} {vs its} (h : ItsAre R vs its) : vs.length = its.length := by
  induction h with
  | nil => rfl
  | cons _ _ ih => simp [ih]
theorem ItsAre.mono {R R' : Led} {vs its} (h : ItsAre R vs its) (k : ∀ (a : Nat) x y, (a, tupOf #[x, y] 0) ∈ R → (a, tupOf #[x, y] 0) ∈ R') : ItsAre R' vs its := by
  induction h with
  | nil => exact .nil
  | cons h _ ih => exact .cons (k _ _ _ h) ih
theorem ItsAre.snoc {R : Led} {vs its} (h : ItsAre R vs its) {ad : Nat} {ts : Tok} {it : It} (hm : (ad, tupOf #[.int it.size ts, it.th] 0) ∈ R) : ItsAre R (vs ++ [.ref ad]) (its ++ [it]) := by
  induction h with
  | nil => exact .cons hm .nil
  | cons h _ ih => exact .cons h ih
set_option genInjectivity false in
structure FinI where
  (k ep : Nat) (vs : List Value)
  deriving Inhabited
set_option genInjectivity false in
structure WfI where
  (qd sa ra fa la : Nat) (T : WfT) (t1 t6 : Nat) (unit : Int) (ep1 ep2 ep3 ep4 : Nat) (svs lvs : List Value) (rows : List RowI) (fins : List FinI)
  deriving Inhabited
noncomputable def finRefs (fs : List FinI) : List Value := fs.map fun f => Value.ref f.k
set_option genInjectivity false in
structure RowOk (R : Led) (x : RowI) (f : FinI) (a : RowA) : Prop where
  em : x.most = a.most
  eo : x.mo = a.mo
  ec : x.oct = a.oct
  o1 : (x.r, instObj 106 x.rd) ∈ R
  o2 : (x.rd, rowD x.RT x.t1 x.t2 x.t4 x.t5 x.most x.mo x.t x.oct x.drop) ∈ R
  o3 : (x.t, listOf x.its.toArray x.ep) ∈ R
  o4 : (f.k, listOf f.vs.toArray f.ep) ∈ R
  ei : ItsAre R x.its a.its
  ef : IntsAre f.vs (a.its.map It.fin)
set_option genInjectivity false in
structure WfOk (q : Nat) (I : WfI) (A : WfA) (R : Led) : Prop where
  m1 : (q, instObj 217 I.qd) ∈ R
  m2 : (I.qd, wfD I.T I.t1 I.t6 I.unit I.sa I.ra I.fa I.la A.time) ∈ R
  m3 : (I.sa, listOf I.svs.toArray I.ep1) ∈ R
  m4 : (I.ra, listOf (rowRefs I.rows).toArray I.ep2) ∈ R
  m5 : (I.fa, listOf (finRefs I.fins).toArray I.ep3) ∈ R
  m6 : (I.la, listOf I.lvs.toArray I.ep4) ∈ R
  hs : IntsAre I.svs A.steps
  hl : IntsAre I.lvs A.lasts
  n1 : I.rows.length = A.rows.length
  n2 : I.fins.length = A.rows.length
  n3 : A.lasts.length = A.rows.length
  n4 : A.steps.length = A.rows.length
  rk : ∀ (i : Nat) x f a, I.rows[i]? = some x → I.fins[i]? = some f → A.rows[i]? = some a → RowOk R x f a
  ndL : (I.sa :: I.ra :: I.fa :: I.la :: (I.fins.map (·.k) ++ I.rows.map (·.t))).Nodup
  ndD : (I.qd :: I.rows.map (·.rd)).Nodup
noncomputable def WfAt (q : Nat) (A : WfA) (R : Led) : Prop := ∃ I, WfOk q I A R
noncomputable def WfA.reset (A : WfA) : WfA := if A.rows.all (·.its.isEmpty) then { A with lasts := List.replicate A.rows.length 0, time := 0 } else A
noncomputable def WfA.fits (A : WfA) (k : Nat) (size : Int) : Prop := ∃ a, A.rows[k]? = some a ∧ (a.its.length : Int) < a.most ∧ a.oct + size ≤ a.mo
noncomputable def WfA.next (A : WfA) (k : Nat) (size : Int) : Int := max (A.lasts.getD k 0) A.time + size * A.steps.getD k 0
noncomputable def WfA.added (A : WfA) (k : Nat) (size : Int) (th : Value) : WfA :=
  { A with lasts := A.lasts.set k (A.next k size), rows := A.rows.modify k fun a => { a with its := a.its ++ [⟨A.next k size, size, th⟩] } }
noncomputable def WfA.taken (A : WfA) (k : Nat) (it : It) : WfA := { A with time := max A.time it.fin, rows := A.rows.modify k fun a => { a with its := a.its.tail } }
theorem getSome {α : Type} {xs : List α} {n i : Nat} (h : xs.length = n) (hi : i < n) : ∃ x, xs[i]? = some x := ⟨_, List.getElem?_eq_getElem (by (first | lia | omega))⟩
theorem WfOk.row {q : Nat} {I : WfI} {A : WfA} {R : Led} (h : WfOk q I A R) {i : Nat} {a : RowA} (ha : A.rows[i]? = some a) : ∃ x f, I.rows[i]? = some x ∧ I.fins[i]? = some f ∧ RowOk R x f a := by
  have hi := (List.getElem?_eq_some_iff.mp ha).1
  obtain ⟨x, hx⟩ := getSome h.n1 hi
  obtain ⟨f, hf⟩ := getSome h.n2 hi
  exact ⟨x, f, hx, hf, h.rk i x f a hx hf ha⟩
theorem WfOk.rowx {q : Nat} {I : WfI} {A : WfA} {R : Led} (h : WfOk q I A R) {i : Nat} {x : RowI} (hx : I.rows[i]? = some x) : ∃ f a, I.fins[i]? = some f ∧ A.rows[i]? = some a ∧ RowOk R x f a := by
  have hi := (List.getElem?_eq_some_iff.mp hx).1
  obtain ⟨a, ha⟩ := getSome (xs := A.rows) rfl (show i < A.rows.length by have := h.n1; (first | lia | omega))
  obtain ⟨f, hf⟩ := getSome h.n2 (show i < A.rows.length by have := h.n1; (first | lia | omega))
  exact ⟨f, a, hf, ha, h.rk i x f a hx hf ha⟩
theorem WfOk.objs {q : Nat} {I : WfI} {A : WfA} {R : Led} (h : WfOk q I A R) : ∀ p ∈ rowsObjs I.rows, p ∈ R := by
  intro p hp
  obtain ⟨x, hx, hp⟩ := List.mem_flatMap.mp hp
  obtain ⟨i, hi⟩ := List.getElem?_of_mem hx
  obtain ⟨f, a, _, _, r⟩ := h.rowx hi
  simp only [RowI.objs, List.mem_cons, List.not_mem_nil, or_false] at hp
  rcases hp with rfl | rfl | rfl
  · exact r.o1
  · exact r.o2
  · exact r.o3
theorem set_same {α : Type} {xs : List α} {i : Nat} {x : α} (h : xs[i]? = some x) : xs.set i x = xs := by
  apply List.ext_getElem?
  intro j
  rw [List.getElem?_set]
  split
  · next e => subst e; rw [h, if_pos (List.getElem?_eq_some_iff.mp h).1]
  · rfl
theorem nodup_at {α : Type} {xs : List α} {g : α → Nat} (h : (xs.map g).Nodup) {i j : Nat} {x y : α} (hx : xs[i]? = some x) (hy : xs[j]? = some y) (e : g x = g y) : i = j := by
  have h1 : (xs.map g)[i]? = some (g x) := by simp [hx]
  have h2 : (xs.map g)[j]? = some (g y) := by simp [hy]
  have hi := (List.getElem?_eq_some_iff.mp h1)
  have hj := (List.getElem?_eq_some_iff.mp h2)
  rcases Nat.lt_trichotomy i j with hl | hl | hl
  · exact absurd (by rw [hi.2, hj.2, e]) (List.pairwise_iff_getElem.mp h i j hi.1 hj.1 hl)
  · exact hl
  · exact absurd (by rw [hi.2, hj.2, e]) (List.pairwise_iff_getElem.mp h j i hj.1 hi.1 hl)
/-- after a put or a take at row k: the same objects but four (five) of them -/
theorem WfOk.change {q : Nat} {I I' : WfI} {A A' : WfA} {R R' : Led} (h : WfOk q I A R) (Fn : Funl R) {k : Nat} {x x' : RowI} {f f' : FinI} {a a' : RowA}
    (hx : I.rows[k]? = some x) (hf : I.fins[k]? = some f) (ha : A.rows[k]? = some a)
    (hmem : ∀ (b : Nat) o, (b, o) ∈ R → (∀ c ∈ [I.qd, I.la, f.k, x.rd, x.t], b ≠ c) → (b, o) ∈ R')
    (eqd : I'.qd = I.qd) (esa : I'.sa = I.sa) (era : I'.ra = I.ra) (efa : I'.fa = I.fa) (ee : I'.ep1 = I.ep1 ∧ I'.ep2 = I.ep2 ∧ I'.ep3 = I.ep3 ∧ I'.svs = I.svs)
    (ela : I'.la = I.la ∨ ∀ p ∈ R, p.1 < I'.la)
    (er : I'.rows = I.rows.set k x') (ef : I'.fins = I.fins.set k f') (ea : A'.rows = A.rows.set k a') (es : A'.steps = A.steps)
    (exr : x'.r = x.r ∧ x'.rd = x.rd ∧ x'.t = x.t) (efk : f'.k = f.k)
    (m2 : (I'.qd, wfD I'.T I'.t1 I'.t6 I'.unit I'.sa I'.ra I'.fa I'.la A'.time) ∈ R') (m6 : (I'.la, listOf I'.lvs.toArray I'.ep4) ∈ R') (hl : IntsAre I'.lvs A'.lasts) (nl : A'.lasts.length = A.rows.length)
    (rk : (∀ (b : Nat) v w, (b, tupOf #[v, w] 0) ∈ R → (b, tupOf #[v, w] 0) ∈ R') → (x.r, instObj 106 x.rd) ∈ R' → RowOk R' x' f' a') : WfOk q I' A' R' := by
  obtain ⟨fx, _, _⟩ : RowOk R x f a ∧ True ∧ True := ⟨h.rk _ _ _ _ hx hf ha, trivial, trivial⟩
  have hnd := h.ndL
  simp only [List.nodup_cons, List.mem_cons, List.mem_append, not_or, List.nodup_append] at hnd
  obtain ⟨⟨s1, s2, s3, s4, s5⟩, ⟨r1, r2, r3, r4⟩, ⟨f1, f2, f3⟩, ⟨l1, l2⟩, nf, nt, nft⟩ := hnd
  have hdd := List.nodup_cons.mp h.ndD
  have hfm : f.k ∈ I.fins.map (·.k) := List.mem_map_of_mem (List.mem_of_getElem? hf)
  have htm : x.t ∈ I.rows.map (·.t) := List.mem_map_of_mem (List.mem_of_getElem? hx)
  have hxm : x.rd ∈ I.rows.map (·.rd) := List.mem_map_of_mem (List.mem_of_getElem? hx)
  have other : ∀ (b : Nat) o, (b, o) ∈ R → okind o = 0 ∨ okind o = 3 → (b, o) ∈ R' := fun b o hb hk => hmem b o hb fun c hc => by
    have h2 : okind o ≠ 1 ∧ okind o ≠ 2 := by (first | lia | omega)
    simp only [List.mem_cons, List.not_mem_nil, or_false] at hc
    rcases hc with rfl | rfl | rfl | rfl | rfl
    · exact Fn.ne hb h.m2 (beq_eq_false_iff_ne.mpr h2.1)
    · exact Fn.ne hb h.m6 (beq_eq_false_iff_ne.mpr h2.2)
    · exact Fn.ne hb fx.o4 (beq_eq_false_iff_ne.mpr h2.2)
    · exact Fn.ne hb fx.o2 (beq_eq_false_iff_ne.mpr h2.1)
    · exact Fn.ne hb fx.o3 (beq_eq_false_iff_ne.mpr h2.2)
  have lists : ∀ (b : Nat) vs ep, (b, listOf vs ep) ∈ R → b ≠ I.la → b ≠ f.k → b ≠ x.t → (b, listOf vs ep) ∈ R' := fun b vs ep hb g1 g2 g3 => hmem b _ hb fun c hc => by
    simp only [List.mem_cons, List.not_mem_nil, or_false] at hc
    rcases hc with rfl | rfl | rfl | rfl | rfl
    · exact Fn.ne hb h.m2
    · exact g1
    · exact g2
    · exact Fn.ne hb fx.o2
    · exact g3
  have htup : ∀ (b : Nat) v w, (b, tupOf #[v, w] 0) ∈ R → (b, tupOf #[v, w] 0) ∈ R' := fun b v w hb => other b _ hb (.inr rfl)
  have rt' : I'.rows.map (·.t) = I.rows.map (·.t) := by
    rw [er, List.map_set, exr.2.2]
    exact set_same (by simp [hx])
  have rd' : I'.rows.map (·.rd) = I.rows.map (·.rd) := by
    rw [er, List.map_set, exr.2.1]
    exact set_same (by simp [hx])
  have fk' : I'.fins.map (·.k) = I.fins.map (·.k) := by
    rw [ef, List.map_set, efk]
    exact set_same (by simp [hf])
  have rr' : rowRefs I'.rows = rowRefs I.rows := by
    unfold rowRefs
    rw [er, List.map_set, exr.1]
    exact set_same (by simp [hx])
  have fr' : finRefs I'.fins = finRefs I.fins := by
    unfold finRefs
    rw [ef, List.map_set, efk]
    exact set_same (by simp [hf])
  have hnew : ∀ y o, (y, o) ∈ R → y ≠ I.la → y ≠ I'.la := fun y o hy hn => by
    rcases ela with e | e
    · rw [e]; exact hn
    · exact Nat.ne_of_lt (e _ hy)
  have hfin : ∀ y ∈ I.fins.map (·.k), ∃ o, (y, o) ∈ R := fun y hy => by
    obtain ⟨g, hg, rfl⟩ := List.mem_map.mp hy
    obtain ⟨i, hi⟩ := List.getElem?_of_mem hg
    obtain ⟨a1, ha1⟩ := getSome (xs := A.rows) rfl (show i < A.rows.length by have := (List.getElem?_eq_some_iff.mp hi).1; have := h.n2; (first | lia | omega))
    obtain ⟨x1, f1, _, e2, r⟩ := h.row ha1
    rw [hi] at e2; cases e2
    exact ⟨_, r.o4⟩
  have hthi : ∀ y ∈ I.rows.map (·.t), ∃ o, (y, o) ∈ R := fun y hy => by
    obtain ⟨g, hg, rfl⟩ := List.mem_map.mp hy
    obtain ⟨i, hi⟩ := List.getElem?_of_mem hg
    obtain ⟨_, _, _, _, r⟩ := h.rowx hi
    exact ⟨_, r.o3⟩
  refine ⟨other _ _ (eqd ▸ h.m1) (.inl rfl), m2, ?_, ?_, ?_, m6, ?_, hl, ?_, ?_, ?_, ?_, ?_, ?_, ?_⟩
  · rw [esa, ee.1, ee.2.2.2]; exact lists _ _ _ h.m3 s3 (fun e => s4 (e ▸ hfm)) (fun e => s5 (e ▸ htm))
  · rw [era, ee.2.1, rr']; exact lists _ _ _ h.m4 r2 (fun e => r3 (e ▸ hfm)) (fun e => r4 (e ▸ htm))
  · rw [efa, ee.2.2.1, fr']; exact lists _ _ _ h.m5 f1 (fun e => f2 (e ▸ hfm)) (fun e => f3 (e ▸ htm))
  · rw [ee.2.2.2, es]; exact h.hs
  · rw [er, ea]; simpa using h.n1
  · rw [ef, ea]; simpa using h.n2
  · rw [ea, nl]; simp
  · rw [es, ea]; simpa using h.n4
  · intro i y g b hy hg hb
    rw [er] at hy
    rw [ef] at hg
    rw [ea] at hb
    by_cases hik : i = k
    · subst hik
      rw [List.getElem?_set_self (List.getElem?_eq_some_iff.mp hx).1] at hy
      rw [List.getElem?_set_self (List.getElem?_eq_some_iff.mp hf).1] at hg
      rw [List.getElem?_set_self (List.getElem?_eq_some_iff.mp ha).1] at hb
      cases hy; cases hg; cases hb
      exact rk htup (other _ _ fx.o1 (.inl rfl))
    · rw [List.getElem?_set_ne (by (first | lia | omega))] at hy
      rw [List.getElem?_set_ne (by (first | lia | omega))] at hg
      rw [List.getElem?_set_ne (by (first | lia | omega))] at hb
      have r := h.rk i y g b hy hg hb
      have hgm : g.k ∈ I.fins.map (·.k) := List.mem_map_of_mem (List.mem_of_getElem? hg)
      have hym : y.t ∈ I.rows.map (·.t) := List.mem_map_of_mem (List.mem_of_getElem? hy)
      have hyd : y.rd ∈ I.rows.map (·.rd) := List.mem_map_of_mem (List.mem_of_getElem? hy)
      refine ⟨r.em, r.eo, r.ec, other _ _ r.o1 (.inl rfl), hmem _ _ r.o2 fun c hc => ?_, lists _ _ _ r.o3 (fun e => l2 (e ▸ hym)) (fun e => nft _ hfm _ hym e.symm) (fun e => hik (nodup_at nt hy hx e)), lists _ _ _ r.o4 (fun e => l1 (e ▸ hgm)) (fun e => hik (nodup_at nf hg hf e)) (fun e => nft _ hgm _ htm e), r.ei.mono htup, r.ef⟩
      simp only [List.mem_cons, List.not_mem_nil, or_false] at hc
      rcases hc with rfl | rfl | rfl | rfl | rfl
      · exact fun e => hdd.1 (e ▸ hyd)
      · exact Fn.ne r.o2 h.m6
      · exact Fn.ne r.o2 fx.o4
      · exact fun e => hik (nodup_at hdd.2 hy hx e)
      · exact Fn.ne r.o2 fx.o3
  · rw [esa, era, efa, fk', rt']
    simp only [List.nodup_cons, List.mem_cons, List.mem_append, not_or, List.nodup_append]
    refine ⟨⟨s1, s2, hnew _ _ h.m3 s3, s4, s5⟩, ⟨r1, hnew _ _ h.m4 r2, r3, r4⟩, ⟨hnew _ _ h.m5 f1, f2, f3⟩, ⟨fun hm => ?_, fun hm => ?_⟩, nf, nt, nft⟩
    · rcases ela with e | e
      · exact l1 (e ▸ hm)
      · obtain ⟨o, ho⟩ := hfin _ hm
        exact Nat.lt_irrefl _ (e _ ho)
    · rcases ela with e | e
      · exact l2 (e ▸ hm)
      · obtain ⟨o, ho⟩ := hthi _ hm
        exact Nat.lt_irrefl _ (e _ ho)
  · rw [eqd, rd']; exact h.ndD
end
-- Lm
example : True := by
  w_top off
  trivial
section
theorem gcd_step {d a b : Int} (hb : 0 < b) : (d ∣ b ∧ d ∣ Int.fmod a b) ↔ (d ∣ a ∧ d ∣ b) := by
  rw [Int.fmod_eq_emod_of_nonneg _ (Int.le_of_lt hb)]
  constructor
  · rintro ⟨h1, h2⟩
    refine ⟨?_, h1⟩
    have := Int.dvd_add (Int.dvd_trans h1 (Int.dvd_mul_right b (a / b))) h2
    rwa [Int.mul_ediv_add_emod] at this
  · rintro ⟨h1, h2⟩
    refine ⟨h2, ?_⟩
    rw [Int.emod_def]
    exact Int.dvd_sub h1 (Int.dvd_trans h2 (Int.dvd_mul_right _ _))
theorem lcm_fact {f n o : Int} (hf : 0 < f) (hn : 0 < n) (ho : 0 < o) (h1 : o ∣ f) (h2 : o ∣ n) : 0 < Int.fdiv (f * n) o ∧ f ∣ Int.fdiv (f * n) o ∧ n ∣ Int.fdiv (f * n) o := by
  obtain ⟨e, rfl⟩ := h1
  obtain ⟨c, rfl⟩ := h2
  have he : 0 < e := by
    rcases Int.lt_trichotomy 0 e with h | h | h
    · exact h
    · rw [← h] at hf; simp at hf
    · have := Int.mul_neg_of_pos_of_neg ho h; (first | lia | omega)
  have hc : 0 < c := by
    rcases Int.lt_trichotomy 0 c with h | h | h
    · exact h
    · rw [← h] at hn; simp at hn
    · have := Int.mul_neg_of_pos_of_neg ho h; (first | lia | omega)
  have e1 : o * e * (o * c) = (o * e * c) * o := by
    rw [Int.mul_assoc (o * e), Int.mul_comm c o]
  rw [e1, Int.fdiv_eq_ediv_of_nonneg _ (Int.le_of_lt ho), Int.mul_ediv_cancel _ (by (first | lia | omega))]
  refine ⟨Int.mul_pos hf hc, Int.dvd_mul_right _ _, ⟨e, ?_⟩⟩
  rw [Int.mul_assoc, Int.mul_assoc, Int.mul_comm e c]
theorem lm_con (w : World) (wa ep : Nat) (wvs : List Value) (ws : List Int) (hw : IntsAre wvs ws) (hb : ∀ x ∈ ws, 1 ≤ x ∧ x ≤ 1000) (hn : ws.length ≤ 100) :
   Con w 176 [.ref wa] 2 300 [(wa, listOf wvs.toArray ep)]
     (fun v post => (∃ (U : Int) (t : Tok), v = .int U t ∧ 0 < U ∧ ∀ x ∈ ws, x ∣ U) ∧ post = [(wa, listOf wvs.toArray ep)]) := by
  unfold Con
  intro p loose mean mg mb dp un gd cn cs a ccd cl outer A₀ base h₀ L m s Q E B F X N T hk hd hu hret
  refine wpAny_call ?_
  k_dflt (cell_ask [(Str.ofString "numbers", .ref wa)])
  k_with "items" => (refine hold ?_)
  k_with "while" => (refine hold ?_)
  k_steps
  unfold Hold
  intro It hIf
  refine turns_ind (fun i m news => news = [(wa, listOf wvs.toArray ep)] ∧ ∃ (U : Int) (t : Tok), AllM m [(Str.ofString "numbers", .ref wa), (Str.ofString "found", .int U t)] ∧ 0 < U ∧ ∀ x ∈ ws.take i, x ∣ U) ?turn ?fin wvs.length 0 _ _ (by simp) ⟨rfl, 1, _, ⟨rfl, rfl, trivial⟩, by decide, by simp⟩
  case turn =>
    intro i it v m news h tk hit hitv hInv F2 oI hI2 N2
    obtain ⟨hnw, U, t, hM, hU, hD⟩ := hInv
    rw [hnw] at N2
    have hi : i < ws.length := by
      have := (List.getElem?_eq_some_iff.mp hit).1
      rw [List.length_map, hw.length] at this
      exact this
    obtain ⟨xt, hx⟩ := hw.get i ws[i] (List.getElem?_eq_getElem hi)
    rw [List.getElem?_map, hx] at hit
    cases hit
    have hv : v = .int ws[i] xt := hitv
    subst hv
    have hx1 := hb ws[i] (List.getElem_mem hi)
    have hxD : ∀ x ∈ ws.take (i + 1), x ∈ ws.take i ∨ x = ws[i] := by
      intro x hx
      rw [take_snoc (List.getElem?_eq_getElem hi), List.mem_append] at hx
      rcases hx with hx | hx
      · exact .inl hx
      · exact .inr (by simpa using hx)
    generalize ws[i] = num at *
    replace F2 := fr_as hM F2
    have hsub : SubL [(wa, listOf wvs.toArray ep)] [(wa, listOf wvs.toArray ep)] := ⟨.head _, trivial⟩
    have hoffI : ∀ p ∈ ([(wa, listOf wvs.toArray ep)] : Led), ∀ q ∈ ([(It, oI)] : Led), p.1 ≠ q.1 := by
      intro p hp q hq
      have := hIf p hp
      rw [List.mem_singleton.mp hq]
      exact Nat.ne_of_lt this
    k_steps
    unfold Hold
    refine While_inv2 (fun n m nx => nx = [(It, oI), (wa, listOf wvs.toArray ep)] ∧ ∃ (o1 o2 : Int) (u1 u2 u3 u4 : Tok), AllM m [(Str.ofString "numbers", .ref wa), (Str.ofString "found", .int U u1), (Str.ofString "number", .int num u2), (Str.ofString "one", .int o1 u3), (Str.ofString "other", .int o2 u4)] ∧ n = o2.toNat ∧ 0 < o1 ∧ 0 ≤ o2 ∧
      ∀ d : Int, (d ∣ o1 ∧ d ∣ o2) ↔ (d ∣ U ∧ d ∣ num)) (by k_asm) (kst_newsOf (by k_asm) (by lcg_sub)) ⟨rfl, U, num, _, _, _, _, ⟨rfl, rfl, rfl, rfl, rfl, trivial⟩, rfl, by (first | lia | omega), by (first | lia | omega), fun d => Iff.rfl⟩ ?_
    rintro n m₁ news₁ h₁ tk₁ F₁ N₁ ⟨hnw1, o1, o2, u1, u2, u3, u4, hM1, rfl, ho1, ho2, hG⟩
    rw [hnw1] at N₁
    replace F₁ := fr_as hM1 F₁
    have hle : ¬ (0 < o2) → o1 ≤ 1000 := fun h => by
      have h0 : o2 = 0 := by (first | lia | omega)
      subst h0
      have := Int.le_of_dvd (by (first | lia | omega)) ((hG o1).mp ⟨Int.dvd_refl _, Int.dvd_zero _⟩).2
      (first | lia | omega)
    k_steps
    · cell_end 8 [(It, oI), (wa, listOf wvs.toArray ep)] ((o1.fmod o2).toNat)
      · have := fm (a := o1) (b := o2) (by assumption); (first | lia | omega)
      · exact ⟨rfl, o2, o1.fmod o2, _, _, _, _, ⟨rfl, rfl, rfl, rfl, rfl, trivial⟩, rfl, by assumption, (fm (by assumption)).1, fun d => (gcd_step (by assumption)).trans (hG d)⟩
    · have ho0 : o2 = 0 := by (first | lia | omega)
      subst ho0
      obtain ⟨g1, g2⟩ := (hG o1).mp ⟨Int.dvd_refl _, Int.dvd_zero _⟩
      obtain ⟨k1, k2, k3⟩ := lcm_fact hU (by (first | lia | omega) : 0 < num) ho1 g1 g2
      cell_end 7 [(wa, listOf wvs.toArray ep)] hoffI
      refine ⟨hsub, rfl, _, _, ⟨rfl, rfl, trivial⟩, k1, fun x hx => ?_⟩
      rcases hxD x hx with h | rfl
      · exact Int.dvd_trans (hD x h) k2
      · exact k3
  case fin =>
    intro m news hInv h tk F2 N2
    obtain ⟨hnw, U, t, hM, hU, hD⟩ := hInv
    rw [hnw] at N2
    replace F2 := fr_as hM F2
    rw [List.length_map, hw.length, List.take_length] at hD
    k_steps
    exact con_end hret (by assumption) (by assumption) (by assumption) (by assumption) (by assumption) _ (fun p hp => hp) ⟨⟨U, _, rfl, hU, hD⟩, rfl⟩
end
-- New
example : True := by
  w_top off
  trivial
section
section
open EpsOn EpsNf
theorem rowNew_con (w : World) (most mo : Int) (t1 t2 : VTok) (h1 : 1 ≤ most) (h2 : 1 ≤ mo) :
   Con w 106 [.int most t1, .int mo t2] 3 300 []
     (fun v post => ∃ (r rd t : Nat) (RT : RowT) (u4 u5 : Nat), v = .ref r ∧ post = [(r, instObj 106 rd), (rd, rowD RT t1 t2 u4 u5 most mo t 0 0), (t, listOf ([] : List Value).toArray 0)]) := by
  revert w most mo t1 t2 h1 h2
  intro w most mo t1 t2 h1 h2
  refine con_cx ?_
  k_extra "cx"
  intro B F X N T hk hd hu hret
  refine' call_clsK ?k1 ?k2 ?k3 ?k4 ?k5 ?k6 ?_
  (case k1 => k_asm); (case k2 => k_asm); (case k3 => k_asm); (case k4 => k_is); (case k5 => k_is); (case k6 => k_is)
  intro x' d' h' F' N' l1 l2 l3
  (try k_lt l1); (try k_lt2 l2); (try k_sweep)
  k_dflt (cell_ask [(Str.ofString "self", .ref x'), (Str.ofString "most", .int most t1), (Str.ofString "most_octets", .int mo t2)])
  k_steps
  · exact con_end hret (con_in l3 (by assumption)) (by assumption) (by assumption) (by assumption) (by assumption) _ (by lcg_sub) ⟨x', d', _, ⟨_, _, _, _, _, _, _, _, _, _⟩, _, _, rfl, rfl⟩
end
end
-- PutA
example : True := by
  w_top off
  trivial
section
theorem sum_zero {xs : List Int} (h : ∀ x ∈ xs, 0 ≤ x) : 0 ≤ xs.sum ∧ (xs.sum = 0 ↔ ∀ x ∈ xs, x = 0) := by
  induction xs with
  | nil => simp
  | cons x xs ih =>
    have h1 := h x (.head _)
    have h2 := ih fun y hy => h y (.tail _ hy)
    rw [List.sum_cons]
    refine ⟨by (first | lia | omega), ⟨fun e => ?_, fun e => ?_⟩⟩
    · have e1 : x = 0 := by (first | lia | omega)
      have e2 : xs.sum = 0 := by (first | lia | omega)
      intro y hy
      rcases List.mem_cons.mp hy with rfl | hy
      · exact e1
      · exact h2.2.mp e2 y hy
    · rw [e x (.head _), h2.2.mpr fun y hy => e y (.tail _ hy)]; rfl
theorem WfOk.empty {q : Nat} {I : WfI} {A : WfA} {R : Led} (h : WfOk q I A R) : thingsIn I.rows = 0 ↔ A.rows.all (·.its.isEmpty) = true := by
  unfold thingsIn
  rw [(sum_zero fun x hx => by obtain ⟨y, _, rfl⟩ := List.mem_map.mp hx; exact Int.natCast_nonneg _).2, List.all_eq_true]
  constructor
  · intro e a ha
    obtain ⟨i, hi⟩ := List.getElem?_of_mem ha
    obtain ⟨x, f, hx, _, r⟩ := h.row hi
    have := e _ (List.mem_map_of_mem (List.mem_of_getElem? hx))
    have := r.ei.len
    rw [List.isEmpty_iff_length_eq_zero]
    (first | lia | omega)
  · intro e x hx
    obtain ⟨y, hy, rfl⟩ := List.mem_map.mp hx
    obtain ⟨i, hi⟩ := List.getElem?_of_mem hy
    obtain ⟨f, a, _, ha, r⟩ := h.rowx hi
    have h1 := e a (List.mem_of_getElem? ha)
    have h2 := r.ei.len
    rw [List.isEmpty_iff_length_eq_zero] at h1
    (first | lia | omega)
theorem modify_set {α : Type} {xs : List α} {k : Nat} {a : α} (g : α → α) (h : xs[k]? = some a) : xs.modify k g = xs.set k (g a) := by
  apply List.ext_getElem?
  intro j
  rw [List.getElem?_modify, List.getElem?_set]
  split
  · next e => subst e; rw [h, if_pos (List.getElem?_eq_some_iff.mp h).1]; rfl
  · simp
theorem reset_rows (A : WfA) : A.reset.rows = A.rows := by unfold WfA.reset; split <;> rfl
theorem reset_steps (A : WfA) : A.reset.steps = A.steps := by unfold WfA.reset; split <;> rfl
section
open EpsOn
theorem wfPutA (w : World) (q : Nat) (A : WfA) (k : Nat) (size : Int) (kt st : Tok) (th : Value) (a : RowA) (R : Led) (ha : A.rows[k]? = some a) (hn : A.rows.length ≤ 100) (hz : ∀ a ∈ A.rows, a.its.length ≤ 1000) (hsz0 : 0 ≤ size) (hsz1 : size ≤ 1000) (hR : WfAt q A R) :
    Con w 195 [.ref q, .int k kt, .int size st, th] 3 300 R (fun v post => (((a.its.length : Int) < a.most ∧ a.oct + size ≤ a.mo) ∧ v = .bool true ∧ WfAt q (A.reset.added k size th) post) ∨
      (¬ ((a.its.length : Int) < a.most ∧ a.oct + size ≤ a.mo) ∧ v = .bool false ∧ WfAt q A.reset post)) := by
  revert w q A k size kt st th a R ha hn hz hsz0 hsz1 hR
  intro w q A k size kt st th a R ha hn hz hsz0 hsz1 hR
  refine con_fun fun Fn => ?_
  obtain ⟨I, h⟩ := hR
  obtain ⟨x, f, hx, hf, r⟩ := h.row ha
  have hk := (List.getElem?_eq_some_iff.mp ha).1
  have hnd := h.ndL
  simp only [List.nodup_cons, List.mem_cons, List.mem_append, not_or, List.nodup_append] at hnd
  obtain ⟨⟨s1, s2, s3, s4, s5⟩, ⟨r1, r2, r3, r4⟩, ⟨f1, f2, f3⟩, ⟨l1, l2⟩, nf, nt, nft⟩ := hnd
  have hdd := List.nodup_cons.mp h.ndD
  have hfm : f.k ∈ I.fins.map (·.k) := List.mem_map_of_mem (List.mem_of_getElem? hf)
  have htm : x.t ∈ I.rows.map (·.t) := List.mem_map_of_mem (List.mem_of_getElem? hx)
  have hxm : x.rd ∈ I.rows.map (·.rd) := List.mem_map_of_mem (List.mem_of_getElem? hx)
  have hk' : ((k : Int)).toNat = k := by (first | lia | omega)
  have hst : ∃ step tst, I.svs[k]? = some (.int step tst) ∧ A.steps.getD k 0 = step := by
    obtain ⟨step, e⟩ := getSome h.n4 hk
    obtain ⟨t, e2⟩ := h.hs.get k step e
    exact ⟨step, t, e2, by rw [List.getD_eq_getElem?_getD, e]; rfl⟩
  obtain ⟨step, tst, hst1, hst2⟩ := hst
  have hlen : ∀ x ∈ I.rows, x.its.length ≤ 1000 := fun y hy => by
    obtain ⟨i, hi⟩ := List.getElem?_of_mem hy
    obtain ⟨_, b, _, hb, rb⟩ := h.rowx hi
    have := hz b (List.mem_of_getElem? hb)
    have := rb.ei.len
    (first | lia | omega)
  have hxl := hlen x (List.mem_of_getElem? hx)
  have hfl : f.vs.length = x.its.length := by rw [r.ef.length, r.ei.len]; simp
  have hlists : ∀ (b : Nat) vs ep, (b, listOf vs ep) ∈ R → b ≠ I.la → b ≠ f.k → b ≠ x.t → (b, listOf vs ep) ∈ rest [I.qd, I.la, f.k, x.rd, x.t] R := fun b vs ep hb g1 g2 g3 => rest_mem hb fun c hc => by
    simp only [List.mem_cons, List.not_mem_nil, or_false] at hc
    rcases hc with rfl | rfl | rfl | rfl | rfl
    · exact Fn.ne hb h.m2
    · exact g1
    · exact g2
    · exact Fn.ne hb r.o2
    · exact g3
  have hinst : ∀ (b c d : Nat), (b, instObj c d) ∈ R → (b, instObj c d) ∈ rest [I.qd, I.la, f.k, x.rd, x.t] R := fun b c d hb => rest_mem hb fun c hc => by
    simp only [List.mem_cons, List.not_mem_nil, or_false] at hc
    rcases hc with rfl | rfl | rfl | rfl | rfl
    · exact Fn.ne hb h.m2
    · exact Fn.ne hb h.m6
    · exact Fn.ne hb r.o4
    · exact Fn.ne hb r.o2
    · exact Fn.ne hb r.o3
  have hD : [I.qd, I.la, f.k, x.rd, x.t].Nodup := by
    simp only [List.nodup_cons, List.mem_cons, List.not_mem_nil, or_false, not_or, not_false_eq_true, List.nodup_nil, and_true]
    exact ⟨⟨Fn.ne h.m2 h.m6, Fn.ne h.m2 r.o4, fun e => hdd.1 (e ▸ hxm), Fn.ne h.m2 r.o3⟩, ⟨fun e => l1 (e ▸ hfm), Fn.ne h.m6 r.o2, fun e => l2 (e ▸ htm)⟩, ⟨Fn.ne r.o4 r.o2, nft _ hfm _ htm⟩, Fn.ne r.o2 r.o3⟩
  have hpre : ∀ p ∈ R, ∃ o, (p.1, o) ∈ ([(I.qd, wfD I.T I.t1 I.t6 I.unit I.sa I.ra I.fa I.la A.time), (I.la, listOf I.lvs.toArray I.ep4), (f.k, listOf f.vs.toArray f.ep), (x.rd, rowD x.RT x.t1 x.t2 x.t4 x.t5 x.most x.mo x.t x.oct x.drop), (x.t, listOf x.its.toArray x.ep)] ++ rest [I.qd, I.la, f.k, x.rd, x.t] R : Led) := by
    intro p hp
    by_cases hb : p.1 ∈ [I.qd, I.la, f.k, x.rd, x.t]
    · simp only [List.mem_cons, List.not_mem_nil, or_false] at hb
      rcases hb with e | e | e | e | e
      · exact ⟨_, by rw [e]; exact .head _⟩
      · exact ⟨_, by rw [e]; exact .tail _ (.head _)⟩
      · exact ⟨_, by rw [e]; exact .tail _ (.tail _ (.head _))⟩
      · exact ⟨_, by rw [e]; exact .tail _ (.tail _ (.tail _ (.head _)))⟩
      · exact ⟨_, by rw [e]; exact .tail _ (.tail _ (.tail _ (.tail _ (.head _))))⟩
    · exact ⟨_, List.mem_append_right _ (rest_mem hp fun c hc e => hb (e ▸ hc))⟩
  have hobjs : ∀ p ∈ rowsObjs I.rows, p ∈ ([(x.rd, rowD x.RT x.t1 x.t2 x.t4 x.t5 x.most x.mo x.t x.oct x.drop), (x.t, listOf x.its.toArray x.ep)] ++ rest [I.qd, I.la, f.k, x.rd, x.t] R : Led) := by
    intro p hp
    obtain ⟨y, hy, hp⟩ := List.mem_flatMap.mp hp
    obtain ⟨i, hi⟩ := List.getElem?_of_mem hy
    obtain ⟨g, b, hg, hb, rb⟩ := h.rowx hi
    have hym : y.t ∈ I.rows.map (·.t) := List.mem_map_of_mem hy
    have hyd : y.rd ∈ I.rows.map (·.rd) := List.mem_map_of_mem hy
    simp only [RowI.objs, List.mem_cons, List.not_mem_nil, or_false] at hp
    by_cases hik : i = k
    · subst hik
      rw [hx] at hi; cases hi
      rcases hp with rfl | rfl | rfl
      · exact .tail _ (.tail _ (hinst _ _ _ r.o1))
      · exact .head _
      · exact .tail _ (.head _)
    · rcases hp with rfl | rfl | rfl
      · exact .tail _ (.tail _ (hinst _ _ _ rb.o1))
      · refine .tail _ (.tail _ (rest_mem rb.o2 fun c hc => ?_))
        simp only [List.mem_cons, List.not_mem_nil, or_false] at hc
        rcases hc with rfl | rfl | rfl | rfl | rfl
        · exact fun e => hdd.1 (e ▸ hyd)
        · exact Fn.ne rb.o2 h.m6
        · exact Fn.ne rb.o2 r.o4
        · exact fun e => hik (nodup_at hdd.2 hi hx e)
        · exact Fn.ne rb.o2 r.o3
      · exact .tail _ (.tail _ (hlists _ _ _ rb.o3 (fun e => l2 (e ▸ hym)) (fun e => nft _ hfm _ hym e.symm) (fun e => hik (nodup_at nt hi hx e))))
  refine con_weaken (wfPut_con w q I.qd I.sa I.ra I.fa I.la f.k x.r x.rd x.t I.T I.t1 I.t6 x.RT x.t1 x.t2 x.t4 x.t5 x.most x.mo x.oct x.drop x.its I.unit A.time (k : Int) size step A.lasts (a.its.map It.fin) I.ep1 I.ep2 I.ep3 I.ep4 f.ep x.ep kt st tst th I.svs I.lvs (finRefs I.fins) f.vs I.rows (rest [I.qd, I.la, f.k, x.rd, x.t] R)
    (by rw [h.n1]; exact hn) hlen (by (first | lia | omega)) (by rw [h.n1]; (first | lia | omega)) (by rw [hk']; simp [rowRefs, hx]) (by rw [hk']; simp [finRefs, hf]) (by rw [hk']; exact hst1) hsz0 hsz1 (hinst _ _ _ h.m1)
    (hlists _ _ _ h.m3 s3 (fun e => s4 (e ▸ hfm)) (fun e => s5 (e ▸ htm))) (hlists _ _ _ h.m4 r2 (fun e => r3 (e ▸ hfm)) (fun e => r4 (e ▸ htm))) (hlists _ _ _ h.m5 f1 (fun e => f2 (e ▸ hfm)) (fun e => f3 (e ▸ htm))) (hinst _ _ _ r.o1) hobjs (rest_off _ _) hD h.hl r.ef
    (by rw [h.hl.length, h.n3, h.n1]) hxl (by (first | lia | omega))) ?sub ?post (Nat.le_refl _) (Nat.le_refl _)
  case sub =>
    intro p hp
    rcases List.mem_append.mp hp with hp | hp
    · simp only [List.mem_cons, List.not_mem_nil, or_false] at hp
      rcases hp with rfl | rfl | rfl | rfl | rfl
      · exact h.m2
      · exact h.m6
      · exact r.o4
      · exact r.o2
      · exact r.o3
    · exact rest_sub p hp
  case post =>
    intro v post hP
    obtain ⟨W', rfl, la', lvs', lasts', t6', ep4', u4', u5', time', hi', hla, ht', hP⟩ := hP
    have hla2 : la' = I.la ∨ ∀ p ∈ R, p.1 < la' := hla.imp id fun hl p hp => by
      obtain ⟨o, ho⟩ := hpre p hp
      exact hl (p.1, o) ho
    have hres : A.reset.time = time' ∧ A.reset.lasts = (if thingsIn I.rows = 0 then List.replicate A.lasts.length 0 else A.lasts) := by
      unfold WfA.reset
      rw [ht']
      by_cases e : A.rows.all (·.its.isEmpty) = true
      · rw [if_pos e, if_pos (h.empty.mpr e), if_pos (h.empty.mpr e), h.n3]; exact ⟨rfl, rfl⟩
      · rw [if_neg e, if_neg fun z => e (h.empty.mp z), if_neg fun z => e (h.empty.mp z)]; exact ⟨rfl, rfl⟩
    rw [hk'] at hP
    rw [← hres.2] at hP
    have hmem : ∀ {Wn : Led}, ∀ (b : Nat) o, (b, o) ∈ R → (∀ c ∈ [I.qd, I.la, f.k, x.rd, x.t], b ≠ c) → (b, o) ∈ Wn ++ rest [I.qd, I.la, f.k, x.rd, x.t] R := fun b o hb hc => List.mem_append_right _ (rest_mem hb hc)
    have hrl : A.reset.lasts.length = A.rows.length := by rw [hres.2]; split <;> simp [h.n3]
    rcases hP with ⟨hfit1, hfit2, y, ep5', ep6', fks', rfl, hlast, hfk, rfl⟩ | ⟨hfit, rfl, hlast, rfl⟩
    · refine .inl ⟨⟨by rw [← r.em, ← r.ei.len]; exact hfit1, by rw [← r.ec, ← r.eo]; exact hfit2⟩, rfl, { I with t6 := t6', la := la', ep4 := ep4', lvs := lvs', rows := I.rows.set k { x with t4 := u4', t5 := u5', oct := x.oct + size, its := x.its ++ [Value.ref y], ep := ep6' }, fins := I.fins.set k { f with vs := fks', ep := ep5' } }, ?_⟩
      have hnx : A.reset.next k size = max (A.reset.lasts.getD k 0) time' + size * step := by
        unfold WfA.next
        rw [hres.1, reset_steps, hst2]
      refine h.change Fn hx hf ha hmem rfl rfl rfl rfl ⟨rfl, rfl, rfl, rfl⟩ hla2 rfl rfl (a' := { a with its := a.its ++ [⟨A.reset.next k size, size, th⟩] }) ?_ (reset_steps _) ⟨rfl, rfl, rfl⟩ rfl ?_ ?_ ?_ ?_ ?_
      · exact (modify_set _ (by rw [reset_rows]; exact ha)).trans (by rw [reset_rows])
      · show (I.qd, wfD I.T I.t1 t6' I.unit I.sa I.ra I.fa la' A.reset.time) ∈ _
        rw [hres.1]; exact .tail _ (.head _)
      · exact .tail _ (.tail _ (.head _))
      · show IntsAre lvs' (A.reset.lasts.set k (A.reset.next k size))
        rw [hnx, ← hlast]; exact hi'
      · show (A.reset.lasts.set k _).length = _
        rw [List.length_set, hrl]
      · intro htup hin
        refine ⟨r.em, r.eo, ?_, hin, ?_, ?_, ?_, ?_, ?_⟩
        · show x.oct + size = _
          rw [r.ec]; simp [RowA.oct]
        · exact .tail _ (.tail _ (.tail _ (.tail _ (.head _))))
        · exact .tail _ (.tail _ (.tail _ (.tail _ (.tail _ (.head _)))))
        · exact .tail _ (.tail _ (.tail _ (.head _)))
        · exact (r.ei.mono htup).snoc (ts := st) (.head _)
        · show IntsAre fks' _
          rw [List.map_append]
          simp only [List.map_cons, List.map_nil]
          rw [hnx]; exact hfk
    · refine .inr ⟨fun hc => hfit ⟨by rw [r.em, r.ei.len]; exact hc.1, by rw [r.ec, r.eo]; exact hc.2⟩, rfl, { I with t6 := t6', la := la', ep4 := ep4', lvs := lvs', rows := I.rows.set k { x with t4 := u4', t5 := u5', drop := x.drop + 1 }, fins := I.fins.set k f }, ?_⟩
      refine h.change Fn hx hf ha hmem rfl rfl rfl rfl ⟨rfl, rfl, rfl, rfl⟩ hla2 rfl rfl (a' := a) ?_ (reset_steps _) ⟨rfl, rfl, rfl⟩ rfl ?_ ?_ ?_ ?_ ?_
      · rw [reset_rows]; exact (set_same ha).symm
      · show (I.qd, wfD I.T I.t1 t6' I.unit I.sa I.ra I.fa la' A.reset.time) ∈ _
        rw [hres.1]; exact .head _
      · exact .tail _ (.head _)
      · show IntsAre lvs' A.reset.lasts
        rw [← hlast]; exact hi'
      · exact hrl
      · intro htup hin
        exact ⟨r.em, r.eo, r.ec, hin, .tail _ (.tail _ (.tail _ (.head _))), .tail _ (.tail _ (.tail _ (.tail _ (.head _)))), .tail _ (.tail _ (.head _)), r.ei.mono htup, r.ef⟩
end
end
-- TakeA
example : True := by
  w_top off
  trivial
section
noncomputable def WfA.headFin (A : WfA) (j : Nat) : Int := match A.rows[j]? with
  | some a => (match a.its with
    | it :: _ => it.fin
    | [] => 0)
  | none => 0
theorem headFin_eq {A : WfA} {j : Nat} {a : RowA} {it : It} {its : List It} (h : A.rows[j]? = some a) (e : a.its = it :: its) : A.headFin j = it.fin := by
  unfold WfA.headFin
  rw [h]
  simp only [e]
noncomputable def TakeP (q : Nat) (A : WfA) (v : Value) (post : Led) : Prop := ((∀ a ∈ A.rows, a.its = []) ∧ v = .none ∧ WfAt q A post) ∨
      ∃ (k : Nat) (a : RowA) (it : It) (its : List It) (y : Nat) (tk ts : Tok) (P : Led), A.rows[k]? = some a ∧ a.its = it :: its ∧ (∀ (j : Nat) a', A.rows[j]? = some a' → a'.its ≠ [] → ¬ klt (A.headFin j, (j : Int)) (it.fin, (k : Int))) ∧
        v = .ref y ∧ post = (y, tupOf #[.int k tk, .int it.size ts, it.th] 0) :: P ∧ WfAt q (A.taken k it) P
section
open EpsOn EpsNf
theorem wfTakeA (w : World) (q : Nat) (A : WfA) (R : Led) (hn : A.rows.length ≤ 100) (hz : ∀ a ∈ A.rows, a.its.length ≤ 1000) (hR : WfAt q A R) :
    Con w 209 [.ref q] 4 400 R (TakeP q A) := by
  revert w q A R hn hz hR
  intro w q A R hn hz hR
  refine con_fun fun Fn => ?_
  obtain ⟨I, h⟩ := hR
  have hlen : ∀ x ∈ I.rows, x.its.length ≤ 1000 := fun y hy => by
    obtain ⟨i, hi⟩ := List.getElem?_of_mem hy
    obtain ⟨_, b, _, hb, rb⟩ := h.rowx hi
    have := hz b (List.mem_of_getElem? hb)
    have := rb.ei.len
    (first | lia | omega)
  have hnI : I.rows.length ≤ 100 := by rw [h.n1]; exact hn
  have hF : ∀ (i : Nat) x, I.rows[i]? = some x → x.its ≠ [] → ∃ (fk : Nat) (fks : List Value) (fep t0 : Nat), (finRefs I.fins)[i]? = some (.ref fk) ∧ (fk, listOf (Value.int (A.headFin i) t0 :: fks).toArray fep) ∈ R := by
    intro i x hx hne
    obtain ⟨f, a, hf, ha, r⟩ := h.rowx hx
    have h1 := r.ei
    have h2 := r.ef
    cases hi : a.its with
    | nil => rw [hi] at h1; cases h1e : x.its with
      | nil => exact absurd h1e hne
      | cons => rw [h1e] at h1; cases h1
    | cons it its =>
      rw [hi, List.map_cons] at h2
      rw [headFin_eq ha hi]
      have h4 := r.o4
      cases hv : f.vs with
      | nil => rw [hv] at h2; cases h2
      | cons v vs =>
        rw [hv] at h2 h4
        cases h2
        exact ⟨f.k, vs, f.ep, _, by simp [finRefs, hf], h4⟩
  have hT : ∀ (i : Nat) x, I.rows[i]? = some x → x.its ≠ [] → ∃ (a : Nat) (its' : List Value) (size : Int) (ts : Tok) (th : Value), x.its = .ref a :: its' ∧ (a, tupOf #[.int size ts, th] 0) ∈ R := by
    intro i x hx hne
    obtain ⟨f, a, hf, ha, r⟩ := h.rowx hx
    have h1 := r.ei
    revert h1
    generalize x.its = xv at *
    generalize a.its = xa
    intro h1
    cases h1 with
    | nil => exact absurd rfl hne
    | cons hm _ => exact ⟨_, _, _, _, _, rfl, hm⟩
  refine con_cx ?_
  k_extra "cxa"
  intro BB F0 X N TT hk hd hu hret
  refine wpAny_call ?_
  k_dflt (cell_ask [(Str.ofString "self", .ref q), (Str.ofString "allowed", .none)])
  rename_i g1 L1 h1 FG1 F1 N1 B1 X1 T1 hin1 l11
  k_with "con" => (refine hold ?_)
  have m1 := h.m1
  have m2 := h.m2
  have m4 := h.m4
  have m5 := h.m5
  k_steps
  unfold Hold
  refine' con_use (wfLook_con w q I.qd I.sa I.ra I.fa I.la I.T I.t1 I.t6 I.unit A.time I.ep2 I.ep3 (finRefs I.fins) I.rows A.headFin R hnI hlen m1 m2 m4 m5 h.objs hF hT) ?k1 ?k2 ?k3 ?k4 ?k5 ?kK ?kd ?ku (fun _ h => h) ?_
  cell_call
  intro r' post h2 tk2 hP F2 N2 _ _
  rcases hP with ⟨hall, rfl, rfl⟩ | ⟨k, x, ad, its', size, ts, tk, th, y, hx, hxe, hxm, hbest, rfl, rfl⟩
  · k_steps
    refine con_end hret (by assumption) (by assumption) (by assumption) (by assumption) (by assumption) post (fun p hp => hp) (.inl ⟨fun a ha => ?_, rfl, I, h⟩)
    obtain ⟨i, hi⟩ := List.getElem?_of_mem ha
    obtain ⟨x, f, hx, hf, r⟩ := h.row hi
    have h1 := r.ei
    rw [hall x (List.mem_of_getElem? hx)] at h1
    revert h1
    generalize a.its = z
    intro h1; cases h1; rfl
  · obtain ⟨f, a, hf, ha, r⟩ := h.rowx hx
    have h1 := r.ei
    obtain ⟨it, itsA, hie, hit⟩ : ∃ it itsA, a.its = it :: itsA ∧ it.size = size ∧ it.th = th ∧ ItsAre R its' itsA := by
      rw [hxe] at h1
      revert h1
      generalize a.its = z
      intro h1
      cases h1 with
      | cons hm hr =>
        have e3 := congrArg Obj.data (Fn _ _ _ hm hxm)
        simp at e3
        exact ⟨_, _, rfl, e3.1.1, e3.2, hr⟩
    obtain ⟨rfl, rfl, hits⟩ := hit
    obtain ⟨ft, fks, hfe, hfi⟩ : ∃ ft fks, f.vs = .int it.fin ft :: fks ∧ IntsAre fks (itsA.map It.fin) := by
      have h2 := r.ef
      rw [hie, List.map_cons] at h2
      revert h2
      generalize f.vs = z
      intro h2
      cases h2 with
      | cons n t hr => exact ⟨_, _, rfl, hr⟩
    have hnd := h.ndL
    simp only [List.nodup_cons, List.mem_cons, List.mem_append, not_or, List.nodup_append] at hnd
    obtain ⟨⟨s1, s2, s3, s4, s5⟩, ⟨r1, r2, r3, r4⟩, ⟨f1, f2, f3⟩, ⟨l1, l2⟩, nf, nt, nft⟩ := hnd
    have hdd := List.nodup_cons.mp h.ndD
    have hfm : f.k ∈ I.fins.map (·.k) := List.mem_map_of_mem (List.mem_of_getElem? hf)
    have htm : x.t ∈ I.rows.map (·.t) := List.mem_map_of_mem (List.mem_of_getElem? hx)
    have hxm' : x.rd ∈ I.rows.map (·.rd) := List.mem_map_of_mem (List.mem_of_getElem? hx)
    have hlists : ∀ (b : Nat) vs ep, (b, listOf vs ep) ∈ R → b ≠ I.la → b ≠ f.k → b ≠ x.t → (b, listOf vs ep) ∈ rest [I.qd, I.la, f.k, x.rd, x.t] R := fun b vs ep hb g1 g2 g3 => rest_mem hb fun c hc => by
      simp only [List.mem_cons, List.not_mem_nil, or_false] at hc
      rcases hc with rfl | rfl | rfl | rfl | rfl
      · exact Fn.ne hb h.m2
      · exact g1
      · exact g2
      · exact Fn.ne hb r.o2
      · exact g3
    have hinst : ∀ (b : Nat) o, (b, o) ∈ R → okind o = 0 ∨ okind o = 3 → (b, o) ∈ rest [I.qd, I.la, f.k, x.rd, x.t] R := fun b o hb hk => rest_mem hb fun c hc => by
      have h2 : okind o ≠ 1 ∧ okind o ≠ 2 := by (first | lia | omega)
      simp only [List.mem_cons, List.not_mem_nil, or_false] at hc
      rcases hc with rfl | rfl | rfl | rfl | rfl
      · exact Fn.ne hb h.m2 (beq_eq_false_iff_ne.mpr h2.1)
      · exact Fn.ne hb h.m6 (beq_eq_false_iff_ne.mpr h2.2)
      · exact Fn.ne hb r.o4 (beq_eq_false_iff_ne.mpr h2.2)
      · exact Fn.ne hb r.o2 (beq_eq_false_iff_ne.mpr h2.1)
      · exact Fn.ne hb r.o3 (beq_eq_false_iff_ne.mpr h2.2)
    have hD : [I.qd, I.la, f.k, x.rd, x.t].Nodup := by
      simp only [List.nodup_cons, List.mem_cons, List.not_mem_nil, or_false, not_or, not_false_eq_true, List.nodup_nil, and_true]
      exact ⟨⟨Fn.ne h.m2 h.m6, Fn.ne h.m2 r.o4, fun e => hdd.1 (e ▸ hxm'), Fn.ne h.m2 r.o3⟩, ⟨fun e => l1 (e ▸ hfm), Fn.ne h.m6 r.o2, fun e => l2 (e ▸ htm)⟩, ⟨Fn.ne r.o4 r.o2, nft _ hfm _ htm⟩, Fn.ne r.o2 r.o3⟩
    have N3 : News g1 L1 h2 ((I.qd, wfD I.T I.t1 I.t6 I.unit I.sa I.ra I.fa I.la A.time) :: (f.k, listOf (Value.int it.fin ft :: fks).toArray f.ep) :: (x.rd, rowD x.RT x.t1 x.t2 x.t4 x.t5 x.most x.mo x.t x.oct x.drop) :: (x.t, listOf (Value.ref ad :: its').toArray x.ep) :: (I.la, listOf I.lvs.toArray I.ep4) :: (y, tupOf #[.int k tk, .int it.size ts, it.th] 0) :: rest [I.qd, I.la, f.k, x.rd, x.t] R) := by
      refine fun p hp => N2 p ?_
      simp only [List.mem_cons] at hp
      rcases hp with rfl | rfl | rfl | rfl | rfl | rfl | hp
      · exact .tail _ h.m2
      · exact .tail _ (hfe ▸ r.o4)
      · exact .tail _ r.o2
      · exact .tail _ (hxe ▸ r.o3)
      · exact .tail _ h.m6
      · exact .head _
      · exact .tail _ (rest_sub p hp)
    have hoff := rest_off [I.qd, I.la, f.k, x.rd, x.t] R
    have n1 := hinst _ _ h.m1 (.inl rfl)
    have n2 := hinst _ _ r.o1 (.inl rfl)
    have n3 := hinst _ _ hxm (.inr rfl)
    have n4 := hlists _ _ _ h.m4 r2 (fun e => r3 (e ▸ hfm)) (fun e => r4 (e ▸ htm))
    have n5 := hlists _ _ _ h.m5 f1 (fun e => f2 (e ▸ hfm)) (fun e => f3 (e ▸ htm))
    have hmem : ∀ {Wn : Led}, ∀ (b : Nat) o, (b, o) ∈ R → (∀ c ∈ [I.qd, I.la, f.k, x.rd, x.t], b ≠ c) → (b, o) ∈ Wn ++ rest [I.qd, I.la, f.k, x.rd, x.t] R := fun b o hb hc => List.mem_append_right _ (rest_mem hb hc)
    generalize hRR : rest [I.qd, I.la, f.k, x.rd, x.t] R = R2 at *
    obtain ⟨e1, e2, e3, e4, e5, e6, e7, e8, e9, e10⟩ := nd5 hD
    have y1 := led_ne N3 (a := y) (b := I.qd) (by k_mem) (by k_mem)
    have y2 := led_ne N3 (a := y) (b := f.k) (by k_mem) (by k_mem)
    have y3 := led_ne N3 (a := y) (b := x.rd) (by k_mem) (by k_mem)
    have y4 := led_ne N3 (a := y) (b := x.t) (by k_mem) (by k_mem)
    have hrk : (rowRefs I.rows)[((k : Int)).toNat]? = some (.ref x.r) := by rw [Int.toNat_natCast]; simp [rowRefs, hx]
    have hfk : (finRefs I.fins)[((k : Int)).toNat]? = some (.ref f.k) := by rw [Int.toNat_natCast]; simp [finRefs, hf]
    have hk100 : k < 100 := by have := (List.getElem?_eq_some_iff.mp hx).1; (first | lia | omega)
    have hxl := hlen x (List.mem_of_getElem? hx)
    rw [hxe] at hxl
    simp only [List.length_cons] at hxl
    have hfl : fks.length ≤ 1000 := by
      have h9 := hfi.length
      have h8 := hits.len
      rw [List.length_map] at h9
      (first | lia | omega)
    clear N2
    k_steps
    unfold Hold
    refine' con_m (rowTake_con w x.r x.rd x.t ad x.RT x.t1 x.t2 x.t4 x.t5 x.most x.mo x.oct x.drop it.size its' x.ep it.th ts (by (first | lia | omega))) ?k1 ?k2 ?k3 ?k4 ?k5 ?kK ?kp ?kr ?ko ?kd ?ku ?_
    cell_call
    (case kp => lcg_src)
    (case kr => lcg_sub)
    (case ko => ke_reads)
    intro r' W' h' tk' hP' F' N' fr'
    obtain ⟨t4', ep', rfl, rfl⟩ := hP'
    (try simp only [List.cons_append, List.nil_append] at N')
    clear fr'
    k_steps
    have fin : ∀ (tk0 t6' : Tok), TakeP q A (.ref y) ((y, tupOf #[.int (k : Int) tk0, .int it.size ts, it.th] 0) :: ((x.rd, rowD x.RT x.t1 x.t2 t4' x.t5 x.most x.mo x.t (x.oct - it.size) x.drop) :: (x.t, listOf its'.toArray ep') :: (I.qd, wfD I.T I.t1 t6' I.unit I.sa I.ra I.fa I.la (max A.time it.fin)) :: (f.k, listOf fks.toArray (f.ep + 1)) :: (I.la, listOf I.lvs.toArray I.ep4) :: R2)) := by
      intro tk0 t6'
      refine .inr ⟨k, a, it, itsA, y, _, ts, _, ha, hie, ?best, rfl, rfl, { I with t6 := t6', rows := I.rows.set k { x with t4 := t4', oct := x.oct - it.size, its := its', ep := ep' }, fins := I.fins.set k { f with vs := fks, ep := f.ep + 1 } }, ?ok⟩
      case best =>
        intro j a' hj hne
        obtain ⟨x', f', hx', _, r'⟩ := h.row hj
        have := hbest j x' hx' (fun e => by
          have h1 := r'.ei.len
          rw [e] at h1
          exact hne (List.length_eq_zero_iff.mp h1.symm))
        rw [headFin_eq ha hie] at this
        exact this
      case ok =>
        refine h.change Fn hx hf ha (fun b o h1 h2 => hmem (Wn := [_, _, _, _, _]) b o h1 h2) rfl rfl rfl rfl ⟨rfl, rfl, rfl, rfl⟩ (.inl rfl) rfl rfl (a' := { a with its := itsA }) ?_ rfl ⟨rfl, rfl, rfl⟩ rfl ?_ ?_ ?_ ?_ ?_
        · exact (modify_set _ ha).trans (by rw [hie]; rfl)
        · exact .tail _ (.tail _ (.head _))
        · exact .tail _ (.tail _ (.tail _ (.tail _ (.head _))))
        · exact h.hl
        · exact h.n3
        · intro htup hin
          refine ⟨r.em, r.eo, ?_, hin, .head _, .tail _ (.head _), .tail _ (.tail _ (.tail _ (.head _))), hits.mono htup, hfi⟩
          show x.oct - it.size = _
          rw [r.ec]; simp only [RowA.oct, hie, List.map_cons, List.sum_cons]; (first | lia | omega)
    exact con_end hret (by assumption) (by assumption) (by assumption) (by assumption) (by assumption) _ (by refine' List.forall_mem_cons.mpr ⟨?_, ?_⟩; rotate_left; lcg_sub; k_mem) (fin _ _)
end
end
-- BkA
example : True := by
  w_top off
  trivial
section
theorem okind_dict {w : World} {o : Obj} {kvs : List (Str × Value)} (h : o.IsDictOf (PySem.strKind pw w) kvs) : okind o = 1 := by
  unfold Obj.IsDictOf at h
  obtain ⟨d, n, h1, h2⟩ := h
  unfold okind
  simp [*]
set_option genInjectivity false in
structure BookA where
  (weights : List Int) (limits : List (Int × Int)) (rows : List (List BIt)) (here : Int × Int) (ends : List (Int × Int))
  deriving Inhabited
set_option genInjectivity false in
structure BookI where
  (bo : Obj) (wa lia rwa ha ea : Nat) (wvs lvs evs : List Value) (rws : List BRw) (epw epl epr ep1 : Nat) (ht hu : Tok)
  deriving Inhabited
set_option genInjectivity false in
structure BookOk (w : World) (b : Nat) (I : BookI) (B : BookA) (R : Led) : Prop where
  m0 : (b, I.bo) ∈ R
  hb : I.bo.IsDictOf (PySem.strKind pw w) (bookKvs I.wa I.lia I.rwa I.ha I.ea)
  m1 : (I.wa, listOf I.wvs.toArray I.epw) ∈ R
  m2 : (I.lia, listOf I.lvs.toArray I.epl) ∈ R
  m3 : (I.rwa, listOf (brwRefs I.rws).toArray I.epr) ∈ R
  m4 : (I.ha, tupOf #[.int B.here.1 I.ht, .int B.here.2 I.hu] 0) ∈ R
  m5 : (I.ea, listOf I.evs.toArray I.ep1) ∈ R
  hw : IntsAre I.wvs B.weights
  hl : FrsAre R I.lvs B.limits
  he : FrsAre R I.evs B.ends
  n1 : B.weights.length = B.rows.length
  n2 : B.limits.length = B.rows.length
  n3 : B.ends.length = B.rows.length
  n4 : I.rws.length = B.rows.length
  rk : ∀ (i : Nat) x a, I.rws[i]? = some x → B.rows[i]? = some a → (x.a, listOf x.vs.toArray x.ep) ∈ R ∧ BItsAre R x.vs a
  nd : (I.wa :: I.lia :: I.rwa :: I.ea :: I.rws.map (·.a)).Nodup
noncomputable def BookAt (w : World) (b wa : Nat) (B : BookA) (R : Led) : Prop := ∃ I : BookI, I.wa = wa ∧ BookOk w b I B R
noncomputable def BookA.reset (B : BookA) : BookA := if B.rows.all (·.isEmpty) then { B with here := (0, 1), ends := List.replicate B.rows.length (0, 1) } else B
noncomputable def BookA.newEnd (B : BookA) (k : Nat) (many : Int) : Int × Int := bNew B.here (B.ends.getD k (0, 0)) (B.weights.getD k 0) many
noncomputable def BookA.added (B : BookA) (k : Nat) (many : Int) (name : Value) : BookA :=
  { B with ends := B.ends.set k (B.newEnd k many), rows := B.rows.modify k fun a => a ++ [⟨(B.newEnd k many).1, (B.newEnd k many).2, many, name⟩] }
noncomputable def BookA.taken (B : BookA) (k : Nat) (it : BIt) : BookA := { B with here := grt B.here (it.num, it.den), rows := B.rows.modify k List.tail }
theorem BookOk.row {w : World} {b : Nat} {I : BookI} {B : BookA} {R : Led} (h : BookOk w b I B R) {i : Nat} {a : List BIt} (ha : B.rows[i]? = some a) : ∃ x, I.rws[i]? = some x ∧ (x.a, listOf x.vs.toArray x.ep) ∈ R ∧ BItsAre R x.vs a := by
  have hi := (List.getElem?_eq_some_iff.mp ha).1
  obtain ⟨x, hx⟩ := getSome h.n4 hi
  exact ⟨x, hx, h.rk i x a hx ha⟩
theorem BookOk.rowx {w : World} {b : Nat} {I : BookI} {B : BookA} {R : Led} (h : BookOk w b I B R) {i : Nat} {x : BRw} (hx : I.rws[i]? = some x) : ∃ a, B.rows[i]? = some a ∧ (x.a, listOf x.vs.toArray x.ep) ∈ R ∧ BItsAre R x.vs a := by
  have hi := (List.getElem?_eq_some_iff.mp hx).1
  obtain ⟨a, ha⟩ := getSome (xs := B.rows) rfl (show i < B.rows.length by have := h.n4; (first | lia | omega))
  exact ⟨a, ha, h.rk i x a hx ha⟩
theorem BookOk.change {w : World} {b : Nat} {I I' : BookI} {B B' : BookA} {R R' : Led} (h : BookOk w b I B R) (Fn : Funl R) {k : Nat} {x x' : BRw} {a' : List BIt} (hx : I.rws[k]? = some x)
    (hmem : ∀ (c : Nat) o, (c, o) ∈ R → (∀ d ∈ [b, I.ea, x.a], c ≠ d) → (c, o) ∈ R')
    (e1 : I'.wa = I.wa ∧ I'.lia = I.lia ∧ I'.rwa = I.rwa ∧ I'.epw = I.epw ∧ I'.epl = I.epl ∧ I'.epr = I.epr ∧ I'.wvs = I.wvs ∧ I'.lvs = I.lvs)
    (ela : I'.ea = I.ea ∨ ∀ p ∈ R, p.1 ≠ I'.ea) (er : I'.rws = I.rws.set k x') (exa : x'.a = x.a) (eb : B'.rows = B.rows.set k a') (ew : B'.weights = B.weights) (el : B'.limits = B.limits)
    (m0 : (b, I'.bo) ∈ R') (hb : I'.bo.IsDictOf (PySem.strKind pw w) (bookKvs I'.wa I'.lia I'.rwa I'.ha I'.ea)) (m4 : (I'.ha, tupOf #[.int B'.here.1 I'.ht, .int B'.here.2 I'.hu] 0) ∈ R') (m5 : (I'.ea, listOf I'.evs.toArray I'.ep1) ∈ R')
    (he : FrsAre R' I'.evs B'.ends) (n3 : B'.ends.length = B.rows.length) (rk : (x'.a, listOf x'.vs.toArray x'.ep) ∈ R' ∧ BItsAre R' x'.vs a') : BookOk w b I' B' R' := by
  obtain ⟨e11, e12, e13, e14, e15, e16, e17, e18⟩ := e1
  have hnd := h.nd
  simp only [List.nodup_cons, List.mem_cons, not_or] at hnd
  obtain ⟨⟨s1, s2, s3, s4⟩, ⟨r1, r2, r3⟩, ⟨f1, f2⟩, l1, nr⟩ := hnd
  have hxm : x.a ∈ I.rws.map (·.a) := List.mem_map_of_mem (List.mem_of_getElem? hx)
  obtain ⟨a, ha, hx1, hx2⟩ := h.rowx hx
  have kb := okind_dict h.hb
  have tup : ∀ (c : Nat) y, (c, tupOf y 0) ∈ R → (c, tupOf y 0) ∈ R' := fun c y hc => hmem c _ hc fun d hd => by
    simp only [List.mem_cons, List.not_mem_nil, or_false] at hd
    rcases hd with rfl | rfl | rfl
    · exact Fn.ne hc h.m0 (by rw [kb]; rfl)
    · exact Fn.ne hc h.m5
    · exact Fn.ne hc hx1
  have lists : ∀ (c : Nat) vs ep, (c, listOf vs ep) ∈ R → c ≠ I.ea → c ≠ x.a → (c, listOf vs ep) ∈ R' := fun c vs ep hc g1 g2 => hmem c _ hc fun d hd => by
    simp only [List.mem_cons, List.not_mem_nil, or_false] at hd
    rcases hd with rfl | rfl | rfl
    · exact Fn.ne hc h.m0 (by rw [kb]; rfl)
    · exact g1
    · exact g2
  have ra' : I'.rws.map (·.a) = I.rws.map (·.a) := by
    rw [er, List.map_set, exa]
    exact set_same (by simp [hx])
  have rr' : brwRefs I'.rws = brwRefs I.rws := by
    unfold brwRefs
    rw [er, List.map_set, exa]
    exact set_same (by simp [hx])
  have hnew : ∀ y o, (y, o) ∈ R → y ≠ I.ea → y ≠ I'.ea := fun y o hy hn => by
    rcases ela with e | e
    · rw [e]; exact hn
    · exact e _ hy
  have hthi : ∀ y ∈ I.rws.map (·.a), ∃ o, (y, o) ∈ R := fun y hy => by
    obtain ⟨g, hg, rfl⟩ := List.mem_map.mp hy
    obtain ⟨i, hi⟩ := List.getElem?_of_mem hg
    obtain ⟨_, _, r, _⟩ := h.rowx hi
    exact ⟨_, r⟩
  refine ⟨m0, hb, ?_, ?_, ?_, m4, m5, ?_, ?_, he, ?_, ?_, ?_, ?_, ?_, ?_⟩
  · rw [e11, e14, e17]; exact lists _ _ _ h.m1 s3 (fun e => s4 (e ▸ hxm))
  · rw [e12, e15, e18]; exact lists _ _ _ h.m2 r2 (fun e => r3 (e ▸ hxm))
  · rw [e13, e16, rr']; exact lists _ _ _ h.m3 f1 (fun e => f2 (e ▸ hxm))
  · rw [e17, ew]; exact h.hw
  · rw [e18, el]; exact h.hl.mono tup
  · rw [ew, eb]; simpa using h.n1
  · rw [el, eb]; simpa using h.n2
  · rw [n3, eb]; simp
  · rw [er, eb]; simpa using h.n4
  · intro i y g hy hg
    rw [er] at hy
    rw [eb] at hg
    by_cases hik : i = k
    · subst hik
      rw [List.getElem?_set_self (List.getElem?_eq_some_iff.mp hx).1] at hy
      rw [List.getElem?_set_self (List.getElem?_eq_some_iff.mp ha).1] at hg
      cases hy; cases hg
      exact rk
    · rw [List.getElem?_set_ne (by (first | lia | omega))] at hy
      rw [List.getElem?_set_ne (by (first | lia | omega))] at hg
      obtain ⟨r1, r2⟩ := h.rk i y g hy hg
      have hym : y.a ∈ I.rws.map (·.a) := List.mem_map_of_mem (List.mem_of_getElem? hy)
      exact ⟨lists _ _ _ r1 (fun e => l1 (e ▸ hym)) (fun e => hik (nodup_at nr hy hx e)), r2.mono tup⟩
  · rw [e11, e12, e13, ra']
    simp only [List.nodup_cons, List.mem_cons, not_or]
    refine ⟨⟨s1, s2, hnew _ _ h.m1 s3, s4⟩, ⟨r1, hnew _ _ h.m2 r2, r3⟩, ⟨hnew _ _ h.m3 f1, f2⟩, fun hm => ?_, nr⟩
    rcases ela with e | e
    · exact l1 (e ▸ hm)
    · obtain ⟨o, ho⟩ := hthi _ hm
      exact e _ ho rfl
theorem BookA.reset_rows (B : BookA) : B.reset.rows = B.rows := by unfold BookA.reset; split <;> rfl
theorem BookA.reset_weights (B : BookA) : B.reset.weights = B.weights := by unfold BookA.reset; split <;> rfl
theorem BookA.reset_limits (B : BookA) : B.reset.limits = B.limits := by unfold BookA.reset; split <;> rfl
theorem BookOk.empty {w : World} {b : Nat} {I : BookI} {B : BookA} {R : Led} (h : BookOk w b I B R) : bookEmpty I.rws ↔ B.rows.all (·.isEmpty) = true := by
  rw [List.all_eq_true]
  constructor
  · intro e a ha
    obtain ⟨i, hi⟩ := List.getElem?_of_mem ha
    obtain ⟨x, hx, _, r⟩ := h.row hi
    have := e x (List.mem_of_getElem? hx)
    have := r.len
    rw [List.isEmpty_iff_length_eq_zero]
    simp_all
  · intro e x hx
    obtain ⟨i, hi⟩ := List.getElem?_of_mem hx
    obtain ⟨a, ha, _, r⟩ := h.rowx hi
    have h1 := e a (List.mem_of_getElem? ha)
    have h2 := r.len
    rw [List.isEmpty_iff_length_eq_zero] at h1
    exact List.length_eq_zero_iff.mp (by (first | lia | omega))
noncomputable abbrev big : Int := 1000000000000000000
noncomputable def frOk (x : Int × Int) : Prop := (0 ≤ x.1 ∧ x.1 ≤ 1000000000000000000) ∧ (0 ≤ x.2 ∧ x.2 ≤ 1000000000000000000)
section
open EpsOn EpsNf
theorem bPutA (w : World) (b wa : Nat) (B : BookA) (k : Nat) (many : Int) (kt mt : Tok) (name : Value) (its : List BIt) (lim : Int × Int) (R : Led) (hk : B.rows[k]? = some its) (hlim : B.limits[k]? = some lim) (hn : B.rows.length ≤ 100) (hz : ∀ a ∈ B.rows, a.length ≤ 1000)
    (hh : frOk B.here) (he : frOk (B.ends.getD k (0, 0))) (hm : 0 ≤ many ∧ many ≤ 1000) (hw1 : 0 ≤ B.weights.getD k 0 ∧ B.weights.getD k 0 ≤ 1000) (hR : BookAt w b wa B R) :
    Con w 364 [.ref b, .int k kt, .int many mt, name] 3 300 R (fun v post => (((its.length : Int) < lim.1 ∧ bOct its + many ≤ lim.2) ∧ v = .bool true ∧ BookAt w b wa (B.reset.added k many name) post) ∨
      (¬ ((its.length : Int) < lim.1 ∧ bOct its + many ≤ lim.2) ∧ v = .bool false ∧ BookAt w b wa B.reset post)) := by
  revert w b wa B k many kt mt name its lim R hk hlim hn hz hh he hm hw1 hR
  intro w b wa B k many kt mt name its lim R hk hlim hn hz hh he hm hw1 hR
  refine con_fun fun Fn => ?_
  obtain ⟨I, hwa, h⟩ := hR
  obtain ⟨x, hx, hx1, hx2⟩ := h.row hk
  have hkl := (List.getElem?_eq_some_iff.mp hk).1
  have hnd := h.nd
  simp only [List.nodup_cons, List.mem_cons, not_or] at hnd
  obtain ⟨⟨s1, s2, s3, s4⟩, ⟨r1, r2, r3⟩, ⟨f1, f2⟩, l1, nr⟩ := hnd
  have hxm : x.a ∈ I.rws.map (·.a) := List.mem_map_of_mem (List.mem_of_getElem? hx)
  have kb := okind_dict h.hb
  have tup : ∀ (c : Nat) y, (c, tupOf y 0) ∈ R → (c, tupOf y 0) ∈ rest [b, I.ea, x.a] R := fun c y hc => rest_mem hc fun d hd => by
    simp only [List.mem_cons, List.not_mem_nil, or_false] at hd
    rcases hd with rfl | rfl | rfl
    · exact Fn.ne hc h.m0 (by rw [kb]; rfl)
    · exact Fn.ne hc h.m5
    · exact Fn.ne hc hx1
  have lists : ∀ (c : Nat) vs ep, (c, listOf vs ep) ∈ R → c ≠ I.ea → c ≠ x.a → (c, listOf vs ep) ∈ rest [b, I.ea, x.a] R := fun c vs ep hc g1 g2 => rest_mem hc fun d hd => by
    simp only [List.mem_cons, List.not_mem_nil, or_false] at hd
    rcases hd with rfl | rfl | rfl
    · exact Fn.ne hc h.m0 (by rw [kb]; rfl)
    · exact g1
    · exact g2
  obtain ⟨weight, hwk⟩ := getSome h.n1 hkl
  obtain ⟨en, hek⟩ := getSome h.n3 hkl
  have hwk' : B.weights.getD k 0 = weight := by rw [List.getD_eq_getElem?_getD, hwk]; rfl
  have hek' : B.ends.getD k (0, 0) = en := by rw [List.getD_eq_getElem?_getD, hek]; rfl
  rw [hwk'] at hw1
  rw [hek'] at he
  obtain ⟨lk, lt1, lt2, hl1, hl2⟩ := h.hl.at hlim
  have hzz : ∀ y ∈ I.rws, y.vs.length ≤ 1000 := fun y hy => by
    obtain ⟨i, hi⟩ := List.getElem?_of_mem hy
    obtain ⟨a, ha, _, r⟩ := h.rowx hi
    have := hz a (List.mem_of_getElem? ha)
    have := r.len
    (first | lia | omega)
  have hea : I.ea ≠ x.a := fun e => l1 (e ▸ hxm)
  refine con_weaken (bPut_con w b I.wa I.lia I.rwa I.ha I.ea x.a lk I.bo I.wvs I.lvs I.evs x.vs I.rws its I.epw I.epl I.epr I.ep1 x.ep B.weights B.ends B.here I.ht I.hu lt1 lt2 kt mt k many lim.1 lim.2 weight name en (rest [b, I.ea, x.a] R) h.hb (by rw [h.n4]; exact hkl) (by rw [h.n4]; exact hn)
    (lists _ _ _ h.m1 s3 (fun e => s4 (e ▸ hxm))) (lists _ _ _ h.m2 r2 (fun e => r3 (e ▸ hxm))) (lists _ _ _ h.m3 f1 (fun e => f2 (e ▸ hxm))) (tup _ _ h.m4) hl1 (tup _ _ hl2) h.hw (by rw [h.n1, h.n4]) hwk hx ?rows hzz (h.he.mono tup) (by rw [h.n3, h.n4]) hek (hx2.mono tup) hh.1 hh.2 he.1 he.2 hm hw1 (rest_off _ _) ?nd) ?sub ?post (Nat.le_refl _) (Nat.le_refl _)
  case rows =>
    intro y hy
    obtain ⟨i, hi⟩ := List.getElem?_of_mem hy
    obtain ⟨a, ha, q1, q2⟩ := h.rowx hi
    by_cases hik : i = k
    · subst hik
      rw [hx] at hi; cases hi
      exact .head _
    · have hym : y.a ∈ I.rws.map (·.a) := List.mem_map_of_mem hy
      exact .tail _ (lists _ _ _ q1 (fun e => l1 (e ▸ hym)) (fun e => hik (nodup_at nr hi hx e)))
  case nd =>
    simp only [List.nodup_cons, List.mem_cons, List.not_mem_nil, or_false, not_or, not_false_eq_true, List.nodup_nil, and_true]
    exact ⟨⟨Fn.ne h.m0 h.m5 (by rw [kb]; rfl), Fn.ne h.m0 hx1 (by rw [kb]; rfl)⟩, hea⟩
  case sub =>
    intro p hp
    rcases List.mem_append.mp hp with hp | hp
    · simp only [List.mem_cons, List.not_mem_nil, or_false] at hp
      rcases hp with rfl | rfl | rfl
      · exact h.m0
      · exact h.m5
      · exact hx1
    · exact rest_sub p hp
  case post =>
    rintro v post ⟨bo', ha', ea', evs', vs', R', ep1', ep2', ht', hu', ends', ends2, here', rfl, hb', hRR, hea', he', hh', c1, c2, hP⟩
    have hpre : ∀ p ∈ R, ∃ o, (p.1, o) ∈ ([(b, I.bo), (I.ea, listOf I.evs.toArray I.ep1), (x.a, listOf x.vs.toArray x.ep)] ++ rest [b, I.ea, x.a] R : Led) := fun p hp => by
      by_cases g1 : p.1 = b
      · exact ⟨I.bo, by rw [g1]; exact .head _⟩
      by_cases g2 : p.1 = I.ea
      · exact ⟨listOf I.evs.toArray I.ep1, by rw [g2]; exact .tail _ (.head _)⟩
      by_cases g3 : p.1 = x.a
      · exact ⟨listOf x.vs.toArray x.ep, by rw [g3]; exact .tail _ (.tail _ (.head _))⟩
      refine ⟨p.2, .tail _ (.tail _ (.tail _ (rest_mem hp fun d hd => ?_)))⟩
      simp only [List.mem_cons, List.not_mem_nil, or_false] at hd
      rcases hd with rfl | rfl | rfl <;> assumption
    have hla2 : ea' = I.ea ∨ ∀ p ∈ R, p.1 ≠ ea' := hea'.imp id fun hl p hp => by
      obtain ⟨o, ho⟩ := hpre p hp
      exact hl (p.1, o) ho
    have hmem : ∀ (c : Nat) o, (c, o) ∈ R → (∀ d ∈ [b, I.ea, x.a], c ≠ d) → (c, o) ∈ ((b, bo') :: (ea', listOf evs'.toArray ep1') :: (x.a, listOf vs'.toArray ep2') :: R' : Led) := fun c o hc hd => .tail _ (.tail _ (.tail _ (hRR _ (rest_mem hc hd))))
    have hres : here' = B.reset.here ∧ ends' = B.reset.ends := by
      unfold BookA.reset
      by_cases e : B.rows.all (·.isEmpty) = true
      · rw [if_pos e, (c1 (h.empty.mpr e)).1, (c1 (h.empty.mpr e)).2, h.n4]; exact ⟨rfl, rfl⟩
      · rw [if_neg e, (c2 fun z => e (h.empty.mp z)).1, (c2 fun z => e (h.empty.mp z)).2]; exact ⟨rfl, rfl⟩
    have hel : B.reset.ends.length = B.rows.length := by
      unfold BookA.reset
      split
      · simp
      · exact h.n3
    have mono : ∀ (a : Nat) y, (a, tupOf y 0) ∈ R' → (a, tupOf y 0) ∈ ((b, bo') :: (ea', listOf evs'.toArray ep1') :: (x.a, listOf vs'.toArray ep2') :: R' : Led) := fun _ _ hh => .tail _ (.tail _ (.tail _ hh))
    rw [hres.1, hres.2] at hP
    rcases hP with ⟨hfit, rfl, rfl, hits⟩ | ⟨hfit, rfl, rfl, rfl, rfl⟩
    · have hne : bNew B.reset.here (B.reset.ends.getD k (0, 0)) weight many = B.reset.newEnd k many := by
        unfold BookA.newEnd
        rw [BookA.reset_weights, hwk']
      rw [hne] at hits he'
      refine .inl ⟨hfit, rfl, { I with bo := bo', ha := ha', ea := ea', evs := evs', ep1 := ep1', ht := ht', hu := hu', rws := I.rws.set k ⟨x.a, ep2', vs'⟩ }, hwa, ?_⟩
      refine h.change Fn hx hmem ⟨rfl, rfl, rfl, rfl, rfl, rfl, rfl, rfl⟩ hla2 rfl rfl (a' := its ++ [⟨(B.reset.newEnd k many).1, (B.reset.newEnd k many).2, many, name⟩]) ?_ (BookA.reset_weights _) (BookA.reset_limits _) (.head _) hb' ?_ (.tail _ (.head _)) (he'.mono mono) ?_ ⟨.tail _ (.tail _ (.head _)), hits.mono mono⟩
      · exact (modify_set _ (by rw [BookA.reset_rows]; exact hk)).trans (by rw [BookA.reset_rows])
      · show (ha', tupOf #[.int B.reset.here.1 ht', .int B.reset.here.2 hu'] 0) ∈ _
        rw [← hres.1]; exact mono _ _ hh'
      · show (B.reset.ends.set k _).length = _
        rw [List.length_set, hel]
    · refine .inr ⟨hfit, rfl, { I with bo := bo', ha := ha', ea := ea', evs := evs', ep1 := ep1', ht := ht', hu := hu', rws := I.rws.set k x }, hwa, ?_⟩
      have hits : BItsAre R' x.vs its := hx2.mono fun a y hy => hRR _ (tup _ _ hy)
      refine h.change Fn hx hmem ⟨rfl, rfl, rfl, rfl, rfl, rfl, rfl, rfl⟩ hla2 rfl rfl (a' := its) ?_ (BookA.reset_weights _) (BookA.reset_limits _) (.head _) hb' ?_ (.tail _ (.head _)) (he'.mono mono) hel ⟨.tail _ (.tail _ (.head _)), hits.mono mono⟩
      · rw [BookA.reset_rows]; exact (set_same hk).symm
      · show (ha', tupOf #[.int B.reset.here.1 ht', .int B.reset.here.2 hu'] 0) ∈ _
        rw [← hres.1]; exact mono _ _ hh'
end
end
-- BNext
example : True := by
  w_top off
  trivial
section
noncomputable def BBest (rows : List (List BIt)) (F : Nat → Int) (i : Nat) (bv : Value) : Prop := (bv = .none ∧ ∀ (j : Nat) a, j < i → rows[j]? = some a → a = []) ∨
  ∃ (k : Nat) (t : Tok) (a : List BIt), bv = .int k t ∧ k < i ∧ rows[k]? = some a ∧ a ≠ [] ∧ ∀ (j : Nat) a', j < i → rows[j]? = some a' → a' ≠ [] → ¬ klt (F j, (j : Int)) (F k, (k : Int))
theorem bbest_skip {rows : List (List BIt)} {F : Nat → Int} {i : Nat} {bv : Value} (h : BBest rows F i bv) (hi : rows[i]? = some []) : BBest rows F (i + 1) bv := by
  rcases h with ⟨rfl, h⟩ | ⟨k, t, a, rfl, hk, ha, hne, h⟩
  · refine .inl ⟨rfl, fun j a hj hja => ?_⟩
    by_cases e : j = i
    · subst e; rw [hi] at hja; cases hja; rfl
    · exact h j a (by (first | lia | omega)) hja
  · refine .inr ⟨k, t, a, rfl, by (first | lia | omega), ha, hne, fun j a' hj hja hne' => ?_⟩
    by_cases e : j = i
    · subst e; rw [hi] at hja; cases hja; exact absurd rfl hne'
    · exact h j a' (by (first | lia | omega)) hja hne'
theorem bbest_first {rows : List (List BIt)} {F : Nat → Int} {i : Nat} {t : Tok} {a : List BIt} (h : ∀ (j : Nat) a, j < i → rows[j]? = some a → a = []) (hi : rows[i]? = some a) (hne : a ≠ []) : BBest rows F (i + 1) (.int i t) := by
  refine .inr ⟨i, t, a, rfl, by (first | lia | omega), hi, hne, fun j a' hj hja hne' => ?_⟩
  by_cases e : j = i
  · subst e; unfold klt; (first | lia | omega)
  · exact absurd (h j a' (by (first | lia | omega)) hja) hne'
theorem bbest_stay {rows : List (List BIt)} {F : Nat → Int} {i k : Nat} {t : Tok} {a : List BIt} (hk : k < i) (ha : rows[k]? = some a) (hne : a ≠ []) (h : ∀ (j : Nat) a', j < i → rows[j]? = some a' → a' ≠ [] → ¬ klt (F j, (j : Int)) (F k, (k : Int))) (hF : F k ≤ F i) : BBest rows F (i + 1) (.int k t) := by
  refine .inr ⟨k, t, a, rfl, by (first | lia | omega), ha, hne, fun j a' hj hja hne' => ?_⟩
  by_cases e : j = i
  · subst e; unfold klt; (first | lia | omega)
  · exact h j a' (by (first | lia | omega)) hja hne'
theorem bbest_turn {rows : List (List BIt)} {F : Nat → Int} {i k : Nat} {t : Tok} {a : List BIt} (hk : k < i) (hi : rows[i]? = some a) (hne : a ≠ []) (h : ∀ (j : Nat) a', j < i → rows[j]? = some a' → a' ≠ [] → ¬ klt (F j, (j : Int)) (F k, (k : Int))) (hF : F i < F k) : BBest rows F (i + 1) (.int i t) := by
  refine .inr ⟨i, t, a, rfl, by (first | lia | omega), hi, hne, fun j a' hj hja hne' => ?_⟩
  by_cases e : j = i
  · subst e; unfold klt; (first | lia | omega)
  · have := h j a' (by (first | lia | omega)) hja hne'
    unfold klt at *
    simp only at *
    (first | lia | omega)
theorem fr_le {U f1 f2 n1 d1 n2 d2 : Int} (hU : 0 < U) (h1 : f1 * d1 = U * n1) (h2 : f2 * d2 = U * n2) (p1 : 0 < d1) (p2 : 0 < d2) : f2 ≤ f1 ↔ n2 * d1 ≤ n1 * d2 := by
  have e1 : f1 * (d1 * d2) = U * (n1 * d2) := by rw [← Int.mul_assoc, h1, Int.mul_assoc]
  have e2 : f2 * (d1 * d2) = U * (n2 * d1) := by rw [Int.mul_comm d1 d2, ← Int.mul_assoc, h2, Int.mul_assoc]
  have hp : 0 < d1 * d2 := Int.mul_pos p1 p2
  constructor
  · intro h
    have h3 : f2 * (d1 * d2) ≤ f1 * (d1 * d2) := Int.mul_le_mul_of_nonneg_right h (Int.le_of_lt hp)
    rw [e1, e2] at h3
    exact Int.le_of_mul_le_mul_left h3 hU
  · intro h
    have h3 : U * (n2 * d1) ≤ U * (n1 * d2) := Int.mul_le_mul_of_nonneg_left h (Int.le_of_lt hU)
    rw [← e1, ← e2] at h3
    exact Int.le_of_mul_le_mul_right h3 hp
theorem bits_head {R : Led} {vs : List Value} {it : BIt} {its : List BIt} (h : BItsAre R vs (it :: its)) : ∃ (ad e : Nat) (ts t u : Tok) (vs' : List Value), vs = .ref ad :: vs' ∧ (ad, tupOf #[.ref e, .int it.size ts, it.th] 0) ∈ R ∧ (e, tupOf #[.int it.num t, .int it.den u] 0) ∈ R ∧ BItsAre R vs' its := by
  cases h with
  | cons a b c => exact ⟨_, _, _, _, _, _, rfl, a, b, c⟩
noncomputable def BHs (B : BookA) (U : Int) (F : Nat → Int) : Prop := ∀ (j : Nat) it its, B.rows[j]? = some (it :: its) → (0 ≤ it.num ∧ it.num ≤ 1000000000000000000) ∧ (0 < it.den ∧ it.den ≤ 1000000000000000000) ∧ F j * it.den = U * it.num
noncomputable def NextP (w : World) (b wa : Nat) (B : BookA) (F : Nat → Int) (v : Value) (post : Led) : Prop := ((∀ a ∈ B.rows, a = []) ∧ v = .none ∧ BookAt w b wa B post) ∨
      ∃ (k : Nat) (it : BIt) (its : List BIt) (y : Nat) (tk ts : Tok) (P : Led), B.rows[k]? = some (it :: its) ∧ (∀ (j : Nat) a', B.rows[j]? = some a' → a' ≠ [] → ¬ klt (F j, (j : Int)) (F k, (k : Int))) ∧
        v = .ref y ∧ post = (y, tupOf #[.int k tk, .int it.size ts, it.th] 0) :: P ∧ BookAt w b wa (B.taken k it) P
section
open EpsOn EpsNf
theorem bNextA (w : World) (b wa : Nat) (B : BookA) (R : Led) (hn : B.rows.length ≤ 100) (hz : ∀ a ∈ B.rows, a.length ≤ 1000) (hR : BookAt w b wa B R) (U : Int) (hU : 0 < U) (F : Nat → Int) (hH : BHs B U F) (hh : frOk B.here) :
   Con w 371 [.ref b] 3 300 R (NextP w b wa B F) := by
  revert w b wa B R hn hz hR U hU F hH hh
  intro w b wa B R hn hz hR U hU F hH hh
  refine con_fun fun Fn => ?_
  obtain ⟨I, hwa, hB⟩ := hR
  refine con_cx ?_
  k_extra "cx"
  intro BB F0 X N TT hk' hd hu hret
  refine wpAny_call ?_
  k_dflt (cell_ask [(Str.ofString "book", .ref b)])
  rename_i g1 L1 h1 FG1 F1 N1 B1 X1 T1 hin1 l11
  have hb := hB.hb
  have m0 := hB.m0
  have m3 := hB.m3
  have m4 := hB.m4
  have hnI : I.rws.length ≤ 100 := by rw [hB.n4]; exact hn
  k_with "con" => (refine hold ?_)
  k_with "items" => (refine hold ?_)
  k_steps
  unfold Hold
  intro It hIf
  refine turns_ind (fun i m news => news = R ∧ m (Str.ofString "book") = some (.ref b) ∧ ∃ bv, m (Str.ofString "best") = some bv ∧ BBest B.rows F i bv) ?turn ?fin (brwRefs I.rws).length 0 _ _ (by rw [enumItems_length, Nat.zero_add]) ⟨rfl, rfl, .none, rfl, .inl ⟨rfl, fun j x hj => absurd hj (by (first | lia | omega))⟩⟩
  case turn =>
    intro i it v m news h tk hit hitv hInv F2 oE hE oI hI2 N2
    obtain ⟨hnw, hmb, bv, hmbest, hbest⟩ := hInv
    rw [hnw] at N2
    clear hnw news
    have hi : i < I.rws.length := by
      have := (List.getElem?_eq_some_iff.mp hit).1
      rwa [enumItems_length, brwRefs, List.length_map] at this
    obtain ⟨x, hx1⟩ : ∃ x, I.rws[i]? = some x := ⟨_, List.getElem?_eq_getElem hi⟩
    rw [enumItems_get (brwRefs I.rws) 0 i (v := .ref x.a) (by simp [brwRefs, hx1])] at hit
    replace hit := Option.some.inj hit
    rw [← hit] at hitv
    clear hit it
    obtain ⟨T, t, rfl, hT⟩ := hitv
    rw [Nat.zero_add] at hT
    obtain ⟨ar, har, hxm, hxi⟩ := hB.rowx hx1
    have hsub : SubL [(I.rwa, listOf (brwRefs I.rws).toArray I.epr)] R := ⟨m3, trivial⟩
    have hmE : m = fun z => if z = Str.ofString "best" then some bv else if z = Str.ofString "book" then some (.ref b) else m z := by
      funext z
      by_cases h1 : z = Str.ofString "best"
      · rw [if_pos h1, h1]; exact hmbest
      · rw [if_neg h1]
        by_cases h2 : z = Str.ofString "book"
        · rw [if_pos h2, h2]; exact hmb
        · rw [if_neg h2]
    rw [hmE] at F2
    have hoffI : ∀ p ∈ (R : Led), ∀ q ∈ ([(It + 1, oE), (It, oI)] : Led), p.1 ≠ q.1 := by
      intro p hp q hq
      have := hIf p hp
      simp only [List.mem_cons, List.not_mem_nil, or_false] at hq
      rcases hq with rfl | rfl
      · exact Nat.ne_of_lt (Nat.lt_succ_of_lt this)
      · exact Nat.ne_of_lt this
    rcases list_or ar with har0 | ⟨it, its, har0⟩
    · rw [har0] at har hxi
      have hx0 : x.vs = [] := List.length_eq_zero_iff.mp hxi.len
      rw [hx0] at hxm
      have hb2 := bbest_skip hbest har
      k_steps
      cell_end 7 R hoffI
      exact ⟨hsub, rfl, rfl, bv, rfl, hb2⟩
    · rw [har0] at har hxi
      obtain ⟨ad, e, ts, u1, u2, vs', hxv, hxm1, hxm2, hxi2⟩ := bits_head hxi
      rw [hxv] at hxm
      obtain ⟨hn1, hd1, hf1⟩ := hH i it its har
      have hi3 : (Value.ref ad :: vs')[Int.toNat 0]? = some (.ref ad) := rfl
      rcases hbest with ⟨rfl, hall⟩ | ⟨k, tk', ak, rfl, hki, hak, hakne, hmin⟩
      · have hb2 : ∀ t, BBest B.rows F (i + 1) (.int i t) := fun t => bbest_first hall har (by simp)
        k_steps
        · exact nomatch (show false = true from ‹(Value.ref ad :: vs').isEmpty = true›)
        cell_end 7 R hoffI
        exact ⟨hsub, rfl, rfl, _, rfl, hb2 _⟩
      · rcases list_or ak with hak0 | ⟨itk, itsk, hak0⟩
        · exact absurd hak0 hakne
        rw [hak0] at hak
        obtain ⟨xk, hxk, hxkm, hxki⟩ := hB.row hak
        obtain ⟨adk, ek, tsk, tk1, tk2, vsk, hxkv, hxkm1, hxkm2, hxki2⟩ := bits_head hxki
        rw [hxkv] at hxkm
        obtain ⟨hnk, hdk, hfk⟩ := hH k itk itsk hak
        have hle := fr_le hU hf1 hfk hd1.1 hdk.1
        have hk1 : (brwRefs I.rws)[((k : Int)).toNat]? = some (.ref xk.a) := by rw [Int.toNat_natCast]; simp [brwRefs, hxk]
        have hk3 : (Value.ref adk :: vsk)[Int.toNat 0]? = some (.ref adk) := rfl
        have hk6 : k < 100 := by have := (List.getElem?_eq_some_iff.mp hxk).1; (first | lia | omega)
        have hstay : itk.num * it.den ≤ it.num * itk.den → BBest B.rows F (i + 1) (.int k tk') := fun hc => bbest_stay hki hak (by simp) hmin (hle.mpr hc)
        have hturn : ∀ t, ¬ itk.num * it.den ≤ it.num * itk.den → BBest B.rows F (i + 1) (.int i t) := fun t hc => bbest_turn hki har (by simp) hmin (by
          have := fun z => hc (hle.mp z)
          (first | lia | omega))
        k_steps
        · exact nomatch (show false = true from ‹(Value.ref ad :: vs').isEmpty = true›)
        unfold Hold
        refine' con_ro (greater_con w e ek it.num it.den itk.num itk.den u1 u2 tk1 tk2 hn1.1 hn1.2 (Int.le_of_lt hd1.1) hd1.2 hnk.1 hnk.2 (Int.le_of_lt hdk.1) hdk.2) ?k1 ?k2 ?k3 ?k4 ?k5 ?kK ?kp ?kd ?ku ?_
        cell_call
        (case kp => lcg_sub)
        intro r' h' tk'' hR' F' N'
        by_cases hc : itk.num * it.den ≤ it.num * itk.den
        · rw [if_pos hc] at hR'
          subst hR'
          replace hstay := hstay hc
          k_steps
          · cell_end 7 R hoffI
            exact ⟨hsub, rfl, rfl, _, rfl, hstay⟩
          · exact absurd (show it.num = it.num ∧ it.den = it.den from ⟨rfl, rfl⟩) (by assumption)
        · rw [if_neg hc] at hR'
          subst hR'
          replace hturn := fun t => hturn t hc
          k_steps
          · rename_i he'
            exact absurd (by rw [he'.1, he'.2]; exact Int.le_refl _) hc
          · cell_end 7 R hoffI
            exact ⟨hsub, rfl, rfl, _, rfl, hturn _⟩
  case fin =>
    intro m news hInv h tk F2 N2
    obtain ⟨hnw, hmb, bv, hmbest, hbest⟩ := hInv
    rw [hnw] at N2
    clear hnw news
    have hlen : (enumItems 0 (brwRefs I.rws)).length = B.rows.length := by rw [enumItems_length, brwRefs, List.length_map, hB.n4]
    rw [hlen] at hbest
    have hmE : m = fun z => if z = Str.ofString "best" then some bv else if z = Str.ofString "book" then some (.ref b) else m z := by
      funext z
      by_cases h1 : z = Str.ofString "best"
      · rw [if_pos h1, h1]; exact hmbest
      · rw [if_neg h1]
        by_cases h2 : z = Str.ofString "book"
        · rw [if_pos h2, h2]; exact hmb
        · rw [if_neg h2]
    rw [hmE] at F2
    rcases hbest with ⟨rfl, hall⟩ | ⟨k, tk', ak, rfl, hki, hak, hakne, hmin⟩
    · k_steps
      refine con_end hret (by assumption) (by assumption) (by assumption) (by assumption) (by assumption) R (fun p hp => hp) (.inl ⟨fun a ha => ?_, rfl, I, hwa, hB⟩)
      obtain ⟨j, hj⟩ := List.getElem?_of_mem ha
      exact hall j a (List.getElem?_eq_some_iff.mp hj).1 hj
    · rcases list_or ak with hak0 | ⟨itk, itsk, hak0⟩
      · exact absurd hak0 hakne
      rw [hak0] at hak
      obtain ⟨xk, hxk, hxkm, hxki⟩ := hB.row hak
      obtain ⟨adk, ek, tsk, tk1, tk2, vsk, hxkv, hxkm1, hxkm2, hxki2⟩ := bits_head hxki
      rw [hxkv] at hxkm
      obtain ⟨hnk, hdk, hfk⟩ := hH k itk itsk hak
      have hk1 : (brwRefs I.rws)[((k : Int)).toNat]? = some (.ref xk.a) := by rw [Int.toNat_natCast]; simp [brwRefs, hxk]
      have hk6 : k < 100 := by have := (List.getElem?_eq_some_iff.mp hxk).1; (first | lia | omega)
      have hvl : vsk.length ≤ 1000 := by
        have h1 := hxki2.len
        have h2 := hz _ (List.mem_of_getElem? hak)
        simp only [List.length_cons] at h2
        (first | lia | omega)
      have hnd := hB.nd
      simp only [List.nodup_cons, List.mem_cons, not_or] at hnd
      obtain ⟨⟨s1, s2, s3, s4⟩, ⟨r1, r2, r3⟩, ⟨f1, f2⟩, l1, nr⟩ := hnd
      have hxm : xk.a ∈ I.rws.map (·.a) := List.mem_map_of_mem (List.mem_of_getElem? hxk)
      have kb := okind_dict hb
      have hne : NeA b xk.a := Fn.ne m0 hxkm (by rw [kb]; rfl)
      have tup : ∀ (c : Nat) y, (c, tupOf y 0) ∈ R → (c, tupOf y 0) ∈ rest [b, xk.a] R := fun c y hc => rest_mem hc fun d hd => by
        simp only [List.mem_cons, List.not_mem_nil, or_false] at hd
        rcases hd with rfl | rfl
        · exact Fn.ne hc m0 (by rw [kb]; rfl)
        · exact Fn.ne hc hxkm
      have lists : ∀ (c : Nat) vs ep, (c, listOf vs ep) ∈ R → c ≠ xk.a → (c, listOf vs ep) ∈ rest [b, xk.a] R := fun c vs ep hc g2 => rest_mem hc fun d hd => by
        simp only [List.mem_cons, List.not_mem_nil, or_false] at hd
        rcases hd with rfl | rfl
        · exact Fn.ne hc m0 (by rw [kb]; rfl)
        · exact g2
      have n3 := lists _ _ _ m3 (fun e => f2 (e ▸ hxm))
      have n4 := tup _ _ m4
      have n5 := tup _ _ hxkm1
      have n6 := tup _ _ hxkm2
      have hoff := rest_off [b, xk.a] R
      have N3 : News g1 L1 h ((b, I.bo) :: (xk.a, listOf (Value.ref adk :: vsk).toArray xk.ep) :: rest [b, xk.a] R) := by
        refine fun p hp => N2 p ?_
        simp only [List.mem_cons] at hp
        rcases hp with rfl | rfl | hp
        · exact m0
        · exact hxkm
        · exact rest_sub p hp
      have hmem : ∀ {Wn : Led}, ∀ (c : Nat) o, (c, o) ∈ R → (∀ d ∈ [b, xk.a], c ≠ d) → (c, o) ∈ Wn ++ rest [b, xk.a] R := fun c o hb hc => List.mem_append_right _ (rest_mem hb hc)
      generalize hRR : rest [b, xk.a] R = R2 at *
      clear N2
      k_steps
      unfold Hold
      refine' con_ro (greater_con w I.ha ek B.here.1 B.here.2 itk.num itk.den I.ht I.hu tk1 tk2 hh.1.1 hh.1.2 hh.2.1 hh.2.2 hnk.1 hnk.2 (Int.le_of_lt hdk.1) hdk.2) ?k1 ?k2 ?k3 ?k4 ?k5 ?kK ?kp ?kd ?ku ?_
      cell_call
      (case kp => lcg_sub)
      intro r' h' tk'' hR' F' N'
      obtain ⟨bg, gt, gu, rfl, hgm⟩ : ∃ (bg : Nat) (gt gu : Tok), r' = .ref bg ∧ (bg, tupOf #[.int (grt B.here (itk.num, itk.den)).1 gt, .int (grt B.here (itk.num, itk.den)).2 gu] 0) ∈ R2 := by
        unfold grt
        by_cases hc : itk.num * B.here.2 ≤ B.here.1 * itk.den
        · rw [if_pos hc] at hR'
          rw [if_pos hc]
          exact ⟨I.ha, _, _, hR', n4⟩
        · rw [if_neg hc] at hR'
          rw [if_neg hc]
          exact ⟨ek, _, _, hR', n6⟩
      clear hR'
      k_steps
      have fin : ∀ (bo' : Obj) (y : Nat) (tk0 : Tok), bo'.IsDictOf (PySem.strKind pw w) (bookKvs I.wa I.lia I.rwa bg I.ea) → NextP w b wa B F (.ref y) ((y, tupOf #[.int (k : Int) tk0, .int itk.size tsk, itk.th] 0) :: ((b, bo') :: (xk.a, listOf vsk.toArray (xk.ep + 1)) :: R2)) := by
        intro bo' y tk0 hb'
        refine .inr ⟨k, itk, itsk, y, _, tsk, _, hak, ?best, rfl, rfl, { I with bo := bo', ha := bg, ht := gt, hu := gu, rws := I.rws.set k ⟨xk.a, xk.ep + 1, vsk⟩ }, hwa, ?ok⟩
        case best =>
          intro j a' hj hne'
          exact hmin j a' (List.getElem?_eq_some_iff.mp hj).1 hj hne'
        case ok =>
          have mono : ∀ (c : Nat) y, (c, tupOf y 0) ∈ R → (c, tupOf y 0) ∈ ((b, bo') :: (xk.a, listOf vsk.toArray (xk.ep + 1)) :: R2 : Led) := fun c y hc => .tail _ (.tail _ (tup c y hc))
          refine hB.change Fn hxk (fun c o h1 h2 => ?_) ⟨rfl, rfl, rfl, rfl, rfl, rfl, rfl, rfl⟩ (.inl rfl) rfl rfl (a' := itsk) ?_ rfl rfl (.head _) hb' (.tail _ (.tail _ hgm)) ?_ (hB.he.mono mono) hB.n3 ⟨.tail _ (.head _), hxki2.mono mono⟩
          · by_cases e : c = I.ea
            · have : o = listOf I.evs.toArray I.ep1 := Fn _ _ _ (e ▸ h1) hB.m5
              subst this
              exact .tail _ (.tail _ (lists _ _ _ h1 (h2 xk.a (by simp))))
            · refine hmem (Wn := [_, _]) c o h1 fun d hd => ?_
              simp only [List.mem_cons, List.not_mem_nil, or_false] at hd
              rcases hd with rfl | rfl
              · exact h2 _ (by simp)
              · exact h2 _ (by simp)
          · exact modify_set _ hak
          · exact .tail _ (.tail _ (lists _ _ _ hB.m5 (fun e => l1 (e ▸ hxm))))
      exact con_end hret (by assumption) (by assumption) (by assumption) (by assumption) (by assumption) _ (by refine' List.forall_mem_cons.mpr ⟨?_, ?_⟩; rotate_left; lcg_sub; k_mem) (fin _ _ _ (by assumption))
end
end
-- WNew
example : True := by
  w_top off
  trivial
section
section
variable {prog : Program} {w : World} {A : Around} {E : Value → Shared → Prop} {s : Shared} {h₀ : Heap} {L : Addr} {m : Str → Option Value} {news : Led}
theorem min_led {l : Addr} {vs : List Value} {n : Nat} {ns : List Int} {Q : Value → Shared → Prop} (hh : A.handled = none) (F : Fr h₀ L s.heap m) (N : News h₀ L s.heap news) (hm : (l, listOf vs.toArray n) ∈ news) (hi : IntsAre vs ns) (hne : 0 < ns.length)
    (h : ∀ h' M (t : Tok) tk, Fr h₀ L h' m → News h₀ L h' news → M ∈ ns → (∀ a, a ∈ ns → M ≤ a) → Q (.int M t) { s with heap := h', toks := tk }) : wpAny (model prog w) A (call (.builtin "min") [.ref l]) Q E s :=
  kso_min F N ⟨_, (N _ hm).1, rfl, n, rfl⟩ hi hne hh h
theorem compRestP_ind {env : Env} {elt : PySem.Expr} {x x₂ : Str} {scope : Scope} {cl : List (Str × Addr)} {S : Led → Prop} {P : Nat → Value → Prop} {Fin : List Value → Led → Prop} {c : Nat} (Inv : Nat → List Value → Led → Prop)
    (turn : ∀ i ys news v, i < c → Inv i ys news → P i v → ∃ (t : Addr) (ot : Obj) (v₁ v₂ : Value) (nt : Nat), v = .ref t ∧ (t, ot) ∈ news ∧ ot.cls = .type "tuple" ∧ ot.data = .seq #[v₁, v₂] nt ∧
      ∀ I oI C oC D m₂ h tk (E' : Value → Shared → Prop), LCg.NsObj oC m₂ → m₂ x = some v₁ → m₂ x₂ = some v₂ → Fr h₀ L h m → News h₀ L h ((I, oI) :: (C, oC) :: (D, LCg.lst ys) :: news) → LCg.Off3 I C D news →
      ((@Ne Nat I C) ∧ (@Ne Nat I D) ∧ (@Ne Nat C D)) →
      wpAny (model prog w) A (eval elt (compEnvC scope cl C env)) (LCg.CompEnd h₀ L m { s with heap := h, toks := tk } I oI C oC D (LCg.lst ys) S (fun y news' => Inv (i + 1) (ys ++ [y]) news')) E' { s with heap := h, toks := tk })
    (fin : ∀ ys news, Inv c ys news → Fin ys news) : ∀ k i ys news, i + k = c → Inv i ys news → LCp.CompRestP prog w A h₀ L m env elt x x₂ scope cl s S P Fin k i ys news := by
  intro k
  induction k with
  | zero => intro i ys news e hi; exact fin ys news (by rw [← e]; exact hi)
  | succ k ih =>
    intro i ys news e hi
    refine LCp.CompRestP.succ fun v hP => ?_
    obtain ⟨t, ot, v₁, v₂, nt, hv, hm, hc, hd, hT⟩ := turn i ys news v (by (first | lia | omega)) hi hP
    refine ⟨t, ot, v₁, v₂, nt, hv, hm, hc, hd, fun I oI C oC D m₂ h tk E' hC hx hx₂ F N off ne => ?_⟩
    refine wpAny_mono (hT I oI C oC D m₂ h tk E' hC hx hx₂ F N off ne) (fun y s₂ hq => ?_) fun _ _ z => z
    obtain ⟨h', tk', news', e1, F1, N1, off1, hS1, hI⟩ := hq
    exact ⟨h', tk', news', e1, F1, N1, off1, hS1, ih (i + 1) (ys ++ [y]) news' (by (first | lia | omega)) hI⟩
end
noncomputable def RowsInv (lims : List (Int × Int)) (W0 : Led) (i : Nat) (ys : List Value) (news : Led) : Prop := ∃ rows : List RowI, news = rowsObjs rows ++ W0 ∧ ys = rowRefs rows ∧ rows.length = i ∧ (rows.map (·.t)).Nodup ∧ (rows.map (·.rd)).Nodup ∧
  (∀ p ∈ rowsObjs rows, ∀ q ∈ W0, p.1 ≠ q.1) ∧ ∀ (j : Nat) x, rows[j]? = some x → ∃ l, lims[j]? = some l ∧ x.most = l.1 ∧ x.mo = l.2 ∧ x.oct = 0 ∧ x.its = []
theorem rowsInv_nil {lims : List (Int × Int)} {W0 : Led} : RowsInv lims W0 0 [] W0 := ⟨[], rfl, rfl, rfl, List.nodup_nil, List.nodup_nil, fun _ h => (nomatch h), fun j x h => by simp at h⟩
theorem rowsObjs_snoc (rows : List RowI) (x : RowI) : rowsObjs (rows ++ [x]) = rowsObjs rows ++ x.objs := by simp [rowsObjs]
theorem RowsInv.add {lims : List (Int × Int)} {W0 : Led} {i : Nat} {ys : List Value} {news : Led} (h : RowsInv lims W0 i ys news) {l : Int × Int} (hl : lims[i]? = some l) (x : RowI) (e : x.most = l.1 ∧ x.mo = l.2 ∧ x.oct = 0 ∧ x.its = [])
    (hf : ∀ q ∈ x.objs, ∀ p ∈ news, p.1 ≠ q.1) : ∃ news', RowsInv lims W0 (i + 1) (ys ++ [.ref x.r]) news' ∧ (∀ p ∈ news', p ∈ x.objs ++ news) ∧ ∀ p ∈ W0, p ∈ news' := by
  obtain ⟨rows, rfl, rfl, hlen, nt, nd, hw, hx⟩ := h
  refine ⟨rowsObjs (rows ++ [x]) ++ W0, ⟨rows ++ [x], rfl, by simp [rowRefs], by simp [hlen], ?_, ?_, ?_, ?_⟩, ?_, fun p hp => List.mem_append_right _ hp⟩
  · rw [List.map_append, List.nodup_append]
    refine ⟨nt, by simp, fun a ha b hb => ?_⟩
    simp only [List.map_cons, List.map_nil, List.mem_cons, List.not_mem_nil, or_false] at hb
    subst hb
    obtain ⟨y, hy, rfl⟩ := List.mem_map.mp ha
    exact hf (x.t, listOf x.its.toArray x.ep) (by simp [RowI.objs]) _ (List.mem_append_left _ (rowsObjs_mem hy).2.2)
  · rw [List.map_append, List.nodup_append]
    refine ⟨nd, by simp, fun a ha b hb => ?_⟩
    simp only [List.map_cons, List.map_nil, List.mem_cons, List.not_mem_nil, or_false] at hb
    subst hb
    obtain ⟨y, hy, rfl⟩ := List.mem_map.mp ha
    exact hf (x.rd, rowD x.RT x.t1 x.t2 x.t4 x.t5 x.most x.mo x.t x.oct x.drop) (by simp [RowI.objs]) _ (List.mem_append_left _ (rowsObjs_mem hy).2.1)
  · intro p hp q hq
    rw [rowsObjs_snoc] at hp
    rcases List.mem_append.mp hp with hp | hp
    · exact hw p hp q hq
    · exact (hf p hp q (List.mem_append_right _ hq)).symm
  · intro j y hj
    rcases Nat.lt_or_ge j rows.length with hlt | hge
    · rw [List.getElem?_append_left hlt] at hj
      exact hx j y hj
    · have : j = i := by
        have := (List.getElem?_eq_some_iff.mp hj).1
        simp at this; (first | lia | omega)
      subst this
      rw [List.getElem?_append_right hge, hlen, Nat.sub_self] at hj
      cases hj
      exact ⟨l, hl, e⟩
  · intro p hp
    rw [rowsObjs_snoc, List.append_assoc] at hp
    simp only [List.mem_append] at hp ⊢
    rcases hp with hp | hp | hp
    · exact .inr (.inl hp)
    · exact .inl hp
    · exact .inr (.inr hp)
noncomputable def finsObjs (fs : List FinI) : Led := fs.map fun f => (f.k, listOf f.vs.toArray f.ep)
noncomputable def FinsInv (W0 : Led) (i : Nat) (ys : List Value) (news : Led) : Prop := ∃ fs : List FinI, news = finsObjs fs ++ W0 ∧ ys = finRefs fs ∧ fs.length = i ∧ (fs.map (·.k)).Nodup ∧ (∀ p ∈ finsObjs fs, ∀ q ∈ W0, p.1 ≠ q.1) ∧ ∀ f ∈ fs, f.vs = []
theorem finsInv_nil {W0 : Led} : FinsInv W0 0 [] W0 := ⟨[], rfl, rfl, rfl, List.nodup_nil, fun _ h => (nomatch h), fun j h => by simp at h⟩
theorem FinsInv.add {W0 : Led} {i : Nat} {ys : List Value} {news : Led} (h : FinsInv W0 i ys news) (f : FinI) (e : f.vs = []) (hf : ∀ p ∈ news, p.1 ≠ f.k) :
    ∃ news', FinsInv W0 (i + 1) (ys ++ [.ref f.k]) news' ∧ (∀ p ∈ news', p ∈ (f.k, listOf f.vs.toArray f.ep) :: news) ∧ ∀ p ∈ W0, p ∈ news' := by
  obtain ⟨fs, rfl, rfl, hlen, nt, hw, hx⟩ := h
  refine ⟨finsObjs (fs ++ [f]) ++ W0, ⟨fs ++ [f], rfl, by simp [finRefs], by simp [hlen], ?_, ?_, ?_⟩, ?_, fun p hp => List.mem_append_right _ hp⟩
  · rw [List.map_append, List.nodup_append]
    refine ⟨nt, by simp, fun a ha b hb => ?_⟩
    simp only [List.map_cons, List.map_nil, List.mem_cons, List.not_mem_nil, or_false] at hb
    subst hb
    obtain ⟨y, hy, rfl⟩ := List.mem_map.mp ha
    exact hf _ (List.mem_append_left _ (List.mem_map.mpr ⟨y, hy, rfl⟩))
  · intro p hp q hq
    simp only [finsObjs, List.map_append, List.map_cons, List.map_nil, List.mem_append, List.mem_cons, List.not_mem_nil, or_false] at hp
    rcases hp with hp | rfl
    · exact hw p hp q hq
    · exact (hf q (List.mem_append_right _ hq)).symm
  · intro g hg
    rcases List.mem_append.mp hg with hg | hg
    · exact hx g hg
    · rw [List.mem_singleton.mp hg]; exact e
  · intro p hp
    simp only [finsObjs, List.map_append, List.map_cons, List.map_nil, List.mem_append, List.mem_cons, List.not_mem_nil, or_false] at hp ⊢
    rcases hp with (hp | rfl) | hp
    · exact .inr (.inl hp)
    · exact .inl rfl
    · exact .inr (.inr hp)
theorem FrsAre.back {R : Led} {vs xs} (h : FrsAre R vs xs) : ∀ {i : Nat} {v : Value}, vs[i]? = some v → ∃ (e : Nat) (t u : Tok) (x : Int × Int), xs[i]? = some x ∧ v = .ref e ∧ (e, tupOf #[.int x.1 t, .int x.2 u] 0) ∈ R := by
  intro i v hv
  have hi := (List.getElem?_eq_some_iff.mp hv).1
  rw [h.len] at hi
  obtain ⟨e, t, u, h1, h2⟩ := h.at (List.getElem?_eq_getElem hi)
  rw [hv] at h1
  exact ⟨e, t, u, _, List.getElem?_eq_getElem hi, Option.some.inj h1, h2⟩
theorem news_swap4 {h₀ h : Heap} {L : Addr} {A R : Led} {x a b c d : Addr × Obj} (N : News h₀ L h (x :: (A ++ a :: b :: c :: d :: R))) : News h₀ L h (x :: a :: b :: c :: d :: (A ++ R)) := fun p hp => N p (by
  simp only [List.mem_cons, List.mem_append] at hp ⊢
  rcases hp with h | h | h | h | h | h | h <;> simp [h])
theorem news_swap5 {h₀ h : Heap} {L : Addr} {A R : Led} {x a b c d e : Addr × Obj} (N : News h₀ L h (x :: (A ++ a :: b :: c :: d :: e :: R))) : News h₀ L h (x :: a :: b :: c :: d :: e :: (A ++ R)) := fun p hp => N p (by
  simp only [List.mem_cons, List.mem_append] at hp ⊢
  rcases hp with h | h | h | h | h | h | h | h <;> simp [h])
section
open EpsOn EpsNf
theorem wfNew_con (w : World) (wa la ep1 ep2 : Nat) (wvs lvs : List Value) (ws : List Int) (lims : List (Int × Int)) (R : Led) (hw : IntsAre wvs ws) (hb : ∀ x ∈ ws, 1 ≤ x ∧ x ≤ 1000) (hn0 : 0 < ws.length) (hn : ws.length ≤ 100) (hl : FrsAre R lvs lims) (hlb : ∀ x ∈ lims, 1 ≤ x.1 ∧ 1 ≤ x.2) (hln : lims.length = ws.length)
    (m1 : (wa, listOf wvs.toArray ep1) ∈ R) (m2 : (la, listOf lvs.toArray ep2) ∈ R) :
   Con w 217 [.ref wa, .ref la] 5 400 R
     (fun v post => ∃ (q : Nat) (P : Led) (U : Int), v = .ref q ∧ post = P ++ R ∧ (∀ p ∈ P, ∀ r ∈ R, p.1 ≠ r.1) ∧ 0 < U ∧ (∀ x ∈ ws, x ∣ U) ∧
       WfAt q { rows := lims.map fun l => ⟨l.1, l.2, []⟩, lasts := List.replicate ws.length 0, steps := ws.map fun x => Int.fdiv U x, time := 0 } P) := by
  revert w wa la ep1 ep2 wvs lvs ws lims R hw hb hn0 hn hl hlb hln m1 m2
  intro w wa la ep1 ep2 wvs lvs ws lims R hw hb hn0 hn hl hlb hln m1 m2
  refine con_cx ?_
  k_extra "cx"
  intro B F X N T hk hd hu hret
  refine' call_clsK ?k1 ?k2 ?k3 ?k4 ?k5 ?k6 ?_
  (case k1 => k_asm); (case k2 => k_asm); (case k3 => k_asm); (case k4 => k_is); (case k5 => k_is); (case k6 => k_is)
  intro x' d' h' F' N' l1 l2 l3
  k_lt2 l2
  k_dflt (cell_ask (true, [(Str.ofString "self", .ref x'), (Str.ofString "weights", .ref wa), (Str.ofString "limits", .ref la)]))
  rename_i g1 L1 h1 tk1 FG1 F1 B1 X1 T1 hin1 l11 c1 d1 N1
  replace F1 : Fr g1 L1 h1 (fun y => if y = Str.ofString "limits" then some (.ref la) else if y = Str.ofString "weights" then some (.ref wa) else none) := F1
  replace d1 : c1.data = Data.cell (some (.ref x')) := d1
  have hwl := hw.length
  have hll := hl.len
  have hwl2 : wvs.length ≤ 1000 := by (first | lia | omega)
  have hll2 : lvs.length ≤ 1000 := by (first | lia | omega)
  have hpos : ∀ M ∈ ws, 1 ≤ M := fun M h => (hb M h).1
  k_with "con" => (refine hold ?_)
  k_with "rest" => (refine hold ?_)
  k_with "restP" => (refine hold ?_)
  k_with "min" => (refine hold ?_)
  k_with "raise" => (refine hold ?_)
  k_steps
  · exfalso; (first | lia | omega)
  · exfalso
    rename_i hz
    have := List.length_eq_zero_iff.mpr (List.isEmpty_iff.mp hz)
    (first | lia | omega)
  · unfold Hold
    refine' min_led ?k0 ?k1 ?k2 ?k3 ?k4 ?k5 ?_
    (case k0 => with_unfolding_all rfl); (case k1 => k_asm); (case k2 => k_asm); (case k3 => k_mem); (case k4 => assumption); (case k5 => assumption)
    intro h2 M t2 tk2 F2 N2 hM1 hM2
    have hM := hpos M hM1
    have hoff : OwnOff R [d'] := fun p hp b hb => by
      rw [List.mem_singleton.mp hb]; exact Nat.ne_of_lt (l1 p hp)
    k_steps
    unfold Hold
    refine' con_ro (lm_con w wa ep1 wvs ws hw hb hn) ?k1 ?k2 ?k3 ?k4 ?k5 ?kK ?kp ?kd ?ku ?_
    cell_call
    (case kp => lcg_sub)
    intro r' h' tk' hR' F' N'
    obtain ⟨U, tU, rfl, hU, hUd⟩ := hR'
    replace N' := kst_newsOf (l' := (L1 + 1, c1) :: (x', instObj 217 d') :: (d', dictOf [] 0) :: R) N' (by lcg_sub)
    clear F2 N2
    k_steps
    rotate_left
    · rw [List.size_toArray, sizeLine_eq]; (first | lia | omega)
    unfold Hold
    refine compRest_ind (fun i ys news => news = _ ∧ IntsAre ys ((ws.take i).map fun x => Int.fdiv U x)) ?turn ?fin _ _ _ _ (Nat.zero_add _) ⟨rfl, .nil⟩
    case turn =>
      intro i ys news v I oI C oC D m₂ h tk E' hi hInv hP hC hx F2 N2 off1 ne1
      obtain ⟨e, hys⟩ := hInv
      rw [e] at N2 off1
      rw [List.size_toArray, hwl] at hi
      obtain ⟨xt, hxt⟩ := hw.get i ws[i] (List.getElem?_eq_getElem hi)
      have hv : v = .int ws[i] xt := by
        have hP' : wvs.toArray[i]? = some v := hP
        rw [List.getElem?_toArray, hxt] at hP'
        exact (Option.some.inj hP').symm
      subst hv
      have hx1 := hb ws[i] (List.getElem_mem hi)
      have hys2 : ∀ t, IntsAre (ys ++ [.int (Int.fdiv U ws[i]) t]) ((ws.take (i + 1)).map fun x => Int.fdiv U x) := fun t => by
        rw [take_snoc (List.getElem?_eq_getElem hi), List.map_append]
        exact ints_snoc hys _ _
      generalize ws[i] = num at *
      k_steps
      exact LCg.CompEnd.intro (by assumption) (by assumption) _ (fun p hp => hp) off1 (Or.inr ⟨_, (by k_mem), rfl, _, rfl⟩) ⟨rfl, hys2 _⟩
    case fin =>
      intro ys news hInv
      obtain ⟨e, hys⟩ := hInv
      rw [List.size_toArray, hwl, List.take_length] at hys
      subst e
      intro D1 h1' tk1' F1' N1' off1'
      have offD1 := off1_mem off1'
      have hD1 : ∀ p ∈ R, p.1 ≠ D1 := fun p hp => offD1 p (by k_mem)
      have hD1d : NeA d' D1 := offD1 (d', _) (by k_mem)
      have hD1x : NeA x' D1 := offD1 (x', _) (by k_mem)
      clear off1' offD1
      k_steps
      rotate_left
      · rw [List.size_toArray, sizeLine_eq]; (first | lia | omega)
      unfold Hold
      refine compRestP_ind (RowsInv lims _) ?turnP ?finP _ _ _ _ (Nat.zero_add _) rowsInv_nil
      case turnP =>
        intro i zs news v hi hInv hP
        have hP' : lvs.toArray[i]? = some v := hP
        rw [List.getElem?_toArray] at hP'
        obtain ⟨e, te, ue, lim, hlim, rfl, hme⟩ := hl.back hP'
        have hsub : ∀ p ∈ R, p ∈ news := by
          obtain ⟨rows, rfl, _⟩ := hInv
          intro p hp
          exact List.mem_append_right _ (by k_mem)
        refine ⟨e, _, _, _, _, rfl, hsub _ hme, rfl, rfl, ?_⟩
        intro I oI C oC D m₂ h tk E' hC hx hy F2 N2 off1 ne1
        have hlb1 := hlb lim (List.mem_of_getElem? hlim)
        k_steps
        unfold Hold
        refine' con_upd (rowNew_con w lim.1 lim.2 te ue hlb1.1 hlb1.2) ?k1 ?k2 ?k3 ?k4 ?k5 ?kK ?kp ?ko ?kd ?ku ?_
        cell_call
        (case kp => exact Pick.nil)
        (case ko => exact fun _ h => (nomatch h))
        intro r' post h' tk' hP' F' N' fr'
        obtain ⟨xr, xrd, xt, RT, u4, u5, rfl, rfl⟩ := hP'
        replace fr' : ∀ q ∈ ([(xr, instObj 106 xrd), (xrd, rowD RT te ue u4 u5 lim.1 lim.2 xt 0 0), (xt, listOf ([] : List Value).toArray 0)] : Led), ∀ p ∈ ((I, oI) :: (C, oC) :: (D, LCg.lst zs) :: news), p.1 ≠ q.1 := fun q hq => (fr' q hq).resolve_left (fun h => nomatch h)
        obtain ⟨news', hI', hs', hW'⟩ := hInv.add hlim ⟨xr, xrd, xt, RT, te, ue, u4, u5, lim.1, lim.2, 0, 0, [], 0⟩ ⟨rfl, rfl, rfl, rfl⟩ (fun q hq p hp => fr' q hq p (.tail _ (.tail _ (.tail _ hp))))
        k_steps
        refine LCg.CompEnd.intro (by assumption) (by assumption) news' (fun p hp => ?_) (LCg.Off3.of fun p hp => ?_) (Or.inr ⟨_, hW' _ (by k_mem), rfl, _, rfl⟩) hI'
        · rcases List.mem_cons.mp hp with rfl | hp
          · k_mem
          rcases List.mem_cons.mp hp with rfl | hp
          · k_mem
          rcases List.mem_cons.mp hp with rfl | hp
          · k_mem
          rcases List.mem_append.mp (hs' p hp) with hp | hp
          · exact List.mem_append_left _ hp
          · exact List.mem_append_right _ (.tail _ (.tail _ (.tail _ hp)))
        · rcases List.mem_append.mp (hs' p hp) with hp | hp
          · exact ⟨(fr' p hp _ (.head _)).symm, (fr' p hp _ (.tail _ (.head _))).symm, (fr' p hp _ (.tail _ (.tail _ (.head _)))).symm⟩
          · exact off1.mem p hp
      case finP =>
        intro zs news hInv
        obtain ⟨rows, rfl, rfl, hrl, hnt, hnd, hrw, hrx⟩ := hInv
        intro D3 h3 tk3 F3 N3 off3
        replace N3 := news_swap4 N3
        have off4 := off1_mem off3
        have hD3 : ∀ p ∈ R, p.1 ≠ D3 := fun p hp => off4 p (List.mem_append_right _ (by k_mem))
        have hD3r : ∀ p ∈ rowsObjs rows, p.1 ≠ D3 := fun p hp => off4 p (List.mem_append_left _ hp)
        have hD13 : NeA D1 D3 := off4 (D1, _) (List.mem_append_right _ (by k_mem))
        have hD1r : ∀ p ∈ rowsObjs rows, p.1 ≠ D1 := fun p hp => hrw p hp (D1, _) (by k_mem)
        have hRr : ∀ p ∈ rowsObjs rows, ∀ q ∈ R, p.1 ≠ q.1 := fun p hp q hq => hrw p hp q (by k_mem)
        have hD3d : NeA d' D3 := off4 (d', _) (List.mem_append_right _ (by k_mem))
        have hD3x : NeA x' D3 := off4 (x', _) (List.mem_append_right _ (by k_mem))
        have hoffr : ∀ p ∈ rowsObjs rows, p.1 ≠ d' := fun p hp => hrw p hp (d', _) (by k_mem)
        obtain ⟨R2, hR2⟩ : ∃ R2, R2 = rowsObjs rows ++ R := ⟨_, rfl⟩
        rw [← hR2] at N3
        have hoff2 : OwnOff R2 [d'] := fun p hp b hb => by
          rw [List.mem_singleton.mp hb]
          rw [hR2] at hp
          rcases List.mem_append.mp hp with hp | hp
          · exact hoffr p hp
          · exact Nat.ne_of_lt (l1 p hp)
        have m1' : (wa, listOf wvs.toArray ep1) ∈ R2 := by rw [hR2]; exact List.mem_append_right _ m1
        clear off3 hoff off4 hrw
        k_steps
        rotate_left
        · rw [List.size_toArray, sizeLine_eq]; (first | lia | omega)
        unfold Hold
        refine compRest_ind (FinsInv _) ?turnF ?finF _ _ _ _ (Nat.zero_add _) finsInv_nil
        case turnF =>
          intro i zs news v I oI C oC D m₂ h tk E' hi hInv hP hC hx F2 N2 off1 ne1
          k_steps
          rename_i l5 h5 F5 N5 fr5
          obtain ⟨news', hI', hs', hW'⟩ := hInv.add ⟨l5, 0, []⟩ rfl (fun p hp => Nat.ne_of_lt (fr5 p (.tail _ (.tail _ (.tail _ hp)))))
          refine LCg.CompEnd.intro (by assumption) (by assumption) news' (fun p hp => ?_) (LCg.Off3.of fun p hp => ?_) (Or.inr ⟨_, hW' _ (by k_mem), rfl, _, rfl⟩) hI'
          · rcases List.mem_cons.mp hp with rfl | hp
            · k_mem
            rcases List.mem_cons.mp hp with rfl | hp
            · k_mem
            rcases List.mem_cons.mp hp with rfl | hp
            · k_mem
            rcases List.mem_cons.mp (hs' p hp) with rfl | hp
            · exact .head _
            · exact .tail _ (.tail _ (.tail _ (.tail _ hp)))
          · rcases List.mem_cons.mp (hs' p hp) with rfl | hp
            · exact ⟨(Nat.ne_of_lt (fr5 _ (.head _))).symm, (Nat.ne_of_lt (fr5 _ (.tail _ (.head _)))).symm, (Nat.ne_of_lt (fr5 _ (.tail _ (.tail _ (.head _))))).symm⟩
            · exact off1.mem p hp
        case finF =>
          intro zs news hInv
          obtain ⟨fs, rfl, rfl, hfl, hfk, hfw, hfv⟩ := hInv
          intro D5 h5 tk5 F5 N5 off5
          replace N5 := news_swap5 N5
          have off6 := off1_mem off5
          have hD5 : ∀ p ∈ R2, p.1 ≠ D5 := fun p hp => off6 p (List.mem_append_right _ (by k_mem))
          have hD5f : ∀ p ∈ finsObjs fs, p.1 ≠ D5 := fun p hp => off6 p (List.mem_append_left _ hp)
          have hD15 : NeA D1 D5 := off6 (D1, _) (List.mem_append_right _ (by k_mem))
          have hD1f : ∀ p ∈ finsObjs fs, p.1 ≠ D1 := fun p hp => hfw p hp (D1, _) (by k_mem)
          have hD3f : ∀ p ∈ finsObjs fs, p.1 ≠ D3 := fun p hp => hfw p hp (D3, _) (by k_mem)
          have hRf : ∀ p ∈ finsObjs fs, ∀ q ∈ R2, p.1 ≠ q.1 := fun p hp q hq => hfw p hp q (by k_mem)
          have hD5d : NeA d' D5 := off6 (d', _) (List.mem_append_right _ (by k_mem))
          have hD5x : NeA x' D5 := off6 (x', _) (List.mem_append_right _ (by k_mem))
          have hD5D : NeA D3 D5 := off6 (D3, _) (List.mem_append_right _ (by k_mem))
          have hofff : ∀ p ∈ finsObjs fs, p.1 ≠ d' := fun p hp => hfw p hp (d', _) (by k_mem)
          obtain ⟨R3, hR3⟩ : ∃ R3, R3 = finsObjs fs ++ R2 := ⟨_, rfl⟩
          rw [← hR3] at N5
          have hoff3 : OwnOff R3 [d'] := fun p hp b hb => by
            rw [List.mem_singleton.mp hb]
            rw [hR3] at hp
            rcases List.mem_append.mp hp with hp | hp
            · exact hofff p hp
            · exact hoff2 p hp d' (.head _)
          have m1'' : (wa, listOf wvs.toArray ep1) ∈ R3 := by rw [hR3]; exact List.mem_append_right _ m1'
          clear off5 hoff2 off6 hfw
          k_steps
          have fin : ∀ (T : WfT) (t1 t6 l7 lastA : Nat) (tz : Tok) (od : Obj), (∀ p ∈ ((l7, listOf #[.int 0 tz] 0) :: (D5, LCg.lst (finRefs fs)) :: (D3, LCg.lst (rowRefs rows)) :: (D1, LCg.lst ys) :: (L1 + 1, c1) :: (x', instObj 217 d') :: (d', od) :: R3 : Led), p.1 < lastA) →
              ∃ (q : Nat) (P : Led) (V : Int), Value.ref x' = .ref q ∧ ([(x', instObj 217 d'), (d', wfD T t1 t6 U D1 D3 D5 lastA 0), (D1, LCg.lst ys), (D3, LCg.lst (rowRefs rows)), (D5, LCg.lst (finRefs fs)), (lastA, listOf (List.replicate ((wvs.length : Int)).toNat (.int 0 tz)).toArray 0)] ++ finsObjs fs ++ rowsObjs rows) ++ R = P ++ R ∧ (∀ p ∈ P, ∀ r ∈ R, p.1 ≠ r.1) ∧ 0 < V ∧ (∀ x ∈ ws, x ∣ V) ∧
                WfAt q { rows := lims.map fun l => ⟨l.1, l.2, []⟩, lasts := List.replicate ws.length 0, steps := ws.map fun x => Int.fdiv V x, time := 0 } P := by
            intro T t1 t6 l7 lastA tz od hl7
            have hlD5 := hl7 (D5, _) (by k_mem)
            have hlD3 := hl7 (D3, _) (by k_mem)
            have hlD1 := hl7 (D1, _) (by k_mem)
            have hlx := hl7 (x', _) (by k_mem)
            have hld := hl7 (d', _) (by k_mem)
            have hlR : ∀ p ∈ R3, p.1 < lastA := fun p hp => hl7 p (by k_mem)
            have hlf : ∀ p ∈ finsObjs fs, p.1 < lastA := fun p hp => hlR p (by rw [hR3]; exact List.mem_append_left _ hp)
            have hlr : ∀ p ∈ rowsObjs rows, p.1 < lastA := fun p hp => hlR p (by rw [hR3, hR2]; exact List.mem_append_right _ (List.mem_append_left _ hp))
            have hlRR : ∀ p ∈ R, p.1 < lastA := fun p hp => hlR p (by rw [hR3, hR2]; exact List.mem_append_right _ (List.mem_append_right _ hp))
            have hR2r : ∀ p ∈ rowsObjs rows, p ∈ R2 := fun p hp => by rw [hR2]; exact List.mem_append_left _ hp
            have hR2R : ∀ p ∈ R, p ∈ R2 := fun p hp => by rw [hR2]; exact List.mem_append_right _ hp
            have hkm : ∀ k ∈ fs.map (·.k), ∃ o, (k, o) ∈ finsObjs fs := fun k hk => by
              obtain ⟨f, hf, rfl⟩ := List.mem_map.mp hk
              exact ⟨_, List.mem_map.mpr ⟨f, hf, rfl⟩⟩
            have htm : ∀ k ∈ rows.map (·.t), ∃ o, (k, o) ∈ rowsObjs rows := fun k hk => by
              obtain ⟨f, hf, rfl⟩ := List.mem_map.mp hk
              exact ⟨_, (rowsObjs_mem hf).2.2⟩
            have hdm : ∀ k ∈ rows.map (·.rd), ∃ o, (k, o) ∈ rowsObjs rows := fun k hk => by
              obtain ⟨f, hf, rfl⟩ := List.mem_map.mp hk
              exact ⟨_, (rowsObjs_mem hf).2.1⟩
            refine ⟨x', _, U, rfl, rfl, ?fresh, hU, hUd, ⟨d', D1, D3, D5, lastA, T, t1, t6, U, ys.length, (rowRefs rows).length, (finRefs fs).length, 0, ys, List.replicate ((wvs.length : Int)).toNat (.int 0 tz), rows, fs⟩, ?ok⟩
            case fresh =>
              intro p hp r hr
              simp only [List.mem_append, List.mem_cons, List.not_mem_nil, or_false] at hp
              rcases hp with ((rfl | rfl | rfl | rfl | rfl | rfl) | hp) | hp
              · exact (Nat.ne_of_lt (Nat.lt_trans (l1 r hr) l2)).symm
              · exact (Nat.ne_of_lt (l1 r hr)).symm
              · exact (hD1 r hr).symm
              · exact (hD3 r hr).symm
              · exact (hD5 r (hR2R r hr)).symm
              · exact (Nat.ne_of_lt (hlRR r hr)).symm
              · exact hRf p hp r (hR2R r hr)
              · exact hRr p hp r hr
            case ok =>
              refine ⟨by simp, by simp, by simp [LCg.lst], by simp [LCg.lst], by simp [LCg.lst], by simp, hys, ?_, ?_, ?_, ?_, ?_, ?_, ?_, ?_⟩
              · rw [Int.toNat_natCast, hwl]; exact ints_rep _ _
              · simp only [List.length_map]; rw [hrl, List.size_toArray, hll]
              · simp only [List.length_map]; rw [hfl, List.size_toArray, hwl, hln]
              · simp [hln]
              · simp [hln]
              · intro i x f a hx hf ha
                obtain ⟨l, hl1, e1, e2, e3, e4⟩ := hrx i x hx
                have ha' : a = ⟨l.1, l.2, []⟩ := by
                  simp only [List.getElem?_map, hl1, Option.map_some, Option.some.injEq] at ha
                  exact ha.symm
                subst ha'
                obtain ⟨q1, q2, q3⟩ := rowsObjs_mem (List.mem_of_getElem? hx)
                have hfm : (f.k, listOf f.vs.toArray f.ep) ∈ finsObjs fs := List.mem_map.mpr ⟨f, List.mem_of_getElem? hf, rfl⟩
                have hfv' := hfv f (List.mem_of_getElem? hf)
                refine ⟨e1, e2, e3, List.mem_append_right _ q1, List.mem_append_right _ q2, List.mem_append_right _ q3, List.mem_append_left _ (List.mem_append_right _ hfm), ?_, ?_⟩
                · rw [e4]; exact .nil
                · rw [hfv']; exact .nil
              · simp only [List.nodup_cons, List.mem_cons, List.mem_append, not_or, List.nodup_append]
                refine ⟨⟨hD13, hD15, Nat.ne_of_lt hlD1, fun hk => ?_, fun hk => ?_⟩, ⟨hD5D, Nat.ne_of_lt hlD3, fun hk => ?_, fun hk => ?_⟩, ⟨Nat.ne_of_lt hlD5, fun hk => ?_, fun hk => ?_⟩, ⟨fun hk => ?_, fun hk => ?_⟩, hfk, hnt, fun a ha b hb e => ?_⟩
                · obtain ⟨o, ho⟩ := hkm _ hk; exact hD1f _ ho rfl
                · obtain ⟨o, ho⟩ := htm _ hk; exact hD1r _ ho rfl
                · obtain ⟨o, ho⟩ := hkm _ hk; exact hD3f _ ho rfl
                · obtain ⟨o, ho⟩ := htm _ hk; exact hD3r _ ho rfl
                · obtain ⟨o, ho⟩ := hkm _ hk; exact hD5f _ ho rfl
                · obtain ⟨o, ho⟩ := htm _ hk; exact hD5 _ (hR2r _ ho) rfl
                · obtain ⟨o, ho⟩ := hkm _ hk; exact Nat.lt_irrefl _ (hlf _ ho)
                · obtain ⟨o, ho⟩ := htm _ hk; exact Nat.lt_irrefl _ (hlr _ ho)
                · obtain ⟨o, ho⟩ := hkm _ ha
                  obtain ⟨o2, ho2⟩ := htm _ hb
                  exact hRf _ ho _ (hR2r _ ho2) e
              · rw [List.nodup_cons]
                refine ⟨fun hk => ?_, hnd⟩
                obtain ⟨o, ho⟩ := hdm _ hk
                exact hoffr _ ho rfl
          rename (∀ p ∈ ((_, listOf #[Value.int 0 _] 0) :: _ : Led), _ < _) => hlast
          exact con_end hret (con_in l3 (by assumption)) (by assumption) (by assumption) (by assumption) (by assumption) _ (by
            intro p hp
            rw [List.mem_append, List.mem_append, List.mem_append] at hp
            rcases hp with ((hp | hp) | hp) | hp
            · simp only [List.mem_cons, List.not_mem_nil, or_false] at hp
              rcases hp with rfl | rfl | rfl | rfl | rfl | rfl <;> k_mem
            · have : p ∈ R3 := by rw [hR3]; exact List.mem_append_left _ hp
              k_mem
            · have : p ∈ R3 := by rw [hR3, hR2]; exact List.mem_append_right _ (List.mem_append_left _ hp)
              k_mem
            · have : p ∈ R3 := by rw [hR3, hR2]; exact List.mem_append_right _ (List.mem_append_right _ hp)
              k_mem) (fin ⟨_, _, _, _, _, _, _, _, _, _, _, _⟩ _ _ _ _ _ _ hlast)
end
end
-- Joint
example : True := by
  w_top off
  trivial
section
noncomputable def bD : Nat → Int
  | 0 => 1
  | p + 1 => 5 * bD p
noncomputable def bN : Nat → Int
  | 0 => 0
  | p + 1 => 5 * bN p + 9 * bD p
theorem bD_pos : ∀ p, 0 < bD p
  | 0 => by decide
  | p + 1 => by have := bD_pos p; show 0 < 5 * bD p; (first | lia | omega)
theorem bN_nn : ∀ p, 0 ≤ bN p
  | 0 => by decide
  | p + 1 => by have := bD_pos p; have := bN_nn p; show 0 ≤ 5 * bN p + 9 * bD p; (first | lia | omega)
theorem b_big (p : Nat) (h : p ≤ 16) : bN p ≤ 1000000000000000000 ∧ bD p ≤ 1000000000000000000 := by
  have : ∀ p : Fin 17, bN p.val ≤ 1000000000000000000 ∧ bD p.val ≤ 1000000000000000000 := by decide
  exact this ⟨p, by (first | lia | omega)⟩
set_option genInjectivity false in
structure FrB (p : Nat) (x : Int × Int) : Prop where
  n0 : 0 ≤ x.1
  n1 : x.1 ≤ bN p
  d0 : 0 < x.2
  d1 : x.2 ≤ bD p
theorem FrB.up {p : Nat} {x : Int × Int} (h : FrB p x) : FrB (p + 1) x := by
  obtain ⟨a, b, c, d⟩ := h
  have h1 := bD_pos p
  have h2 := bN_nn p
  exact ⟨a, by show _ ≤ 5 * bN p + 9 * bD p; (first | lia | omega), c, by show _ ≤ 5 * bD p; (first | lia | omega)⟩
theorem FrB.one (p : Nat) : FrB p (0, 1) := ⟨by decide, bN_nn p, by decide, by have := bD_pos p; show (1 : Int) ≤ bD p; (first | lia | omega)⟩
theorem FrB.ok {p : Nat} {x : Int × Int} (h : FrB p x) (hp : p ≤ 16) : frOk x := by
  obtain ⟨a, b, c, d⟩ := h
  have := b_big p hp
  exact ⟨⟨a, by (first | lia | omega)⟩, ⟨by (first | lia | omega), by (first | lia | omega)⟩⟩
theorem FrB.new {p : Nat} {x : Int × Int} {w m : Int} (h : FrB p x) (hw : 1 ≤ w ∧ w ≤ 5) (hm : 1 ≤ m ∧ m ≤ 9) : FrB (p + 1) (x.1 * w + m * x.2, x.2 * w) := by
  obtain ⟨a, b, c, d⟩ := h
  have e1 : x.1 * w ≤ x.1 * 5 := Int.mul_le_mul_of_nonneg_left hw.2 a
  have e2 : m * x.2 ≤ 9 * x.2 := Int.mul_le_mul_of_nonneg_right hm.2 (by (first | lia | omega))
  have e3 : x.2 * w ≤ x.2 * 5 := Int.mul_le_mul_of_nonneg_left hw.2 (by (first | lia | omega))
  have e4 : 0 ≤ x.1 * w := Int.mul_nonneg a (by (first | lia | omega))
  have e5 : 0 ≤ m * x.2 := Int.mul_nonneg (by (first | lia | omega)) (by (first | lia | omega))
  have e6 : 0 < x.2 * w := Int.mul_pos c (by (first | lia | omega))
  exact ⟨by show 0 ≤ x.1 * w + m * x.2; (first | lia | omega), by show x.1 * w + m * x.2 ≤ 5 * bN p + 9 * bD p; (first | lia | omega), e6, by show x.2 * w ≤ 5 * bD p; (first | lia | omega)⟩
theorem FrB.grt {p : Nat} {x y : Int × Int} (hx : FrB p x) (hy : FrB p y) : FrB p (grt x y) := by
  unfold Mine.grt
  split
  · exact hx
  · exact hy
inductive ItsRel (U : Int) (p : Nat) : List It → List BIt → Prop
  | nil : ItsRel U p [] []
  | cons {a b as bs} : a.size = b.size → (a.th = b.th ∧ ∃ x t, a.th = Value.int x t) → a.fin * b.den = U * b.num → FrB p (b.num, b.den) → ItsRel U p as bs → ItsRel U p (a :: as) (b :: bs)
theorem ItsRel.up {U : Int} {p : Nat} {as bs} (h : ItsRel U p as bs) : ItsRel U (p + 1) as bs := by
  induction h with
  | nil => exact .nil
  | cons a b c d _ ih => exact .cons a b c d.up ih
theorem ItsRel.snoc {U : Int} {p : Nat} {as bs} (h : ItsRel U p as bs) {a b} (h1 : a.size = b.size) (h2 : a.th = b.th ∧ ∃ x t, a.th = Value.int x t) (h3 : a.fin * b.den = U * b.num) (h4 : FrB p (b.num, b.den)) : ItsRel U p (as ++ [a]) (bs ++ [b]) := by
  induction h with
  | nil => exact .cons h1 h2 h3 h4 .nil
  | cons a b c d _ ih => exact .cons a b c d ih
theorem ItsRel.len {U : Int} {p : Nat} {as bs} (h : ItsRel U p as bs) : as.length = bs.length := by
  induction h with
  | nil => rfl
  | cons _ _ _ _ _ ih => simp [ih]
theorem ItsRel.sum {U : Int} {p : Nat} {as bs} (h : ItsRel U p as bs) : (as.map It.size).sum = bOct bs := by
  unfold bOct
  induction h with
  | nil => rfl
  | cons a _ _ _ _ ih => simp [ih, a]
noncomputable def nItems (A : WfA) : Nat := (A.rows.map fun a => a.its.length).sum
set_option genInjectivity false in
structure Joint (U : Int) (wts : List Int) (p : Nat) (A : WfA) (B : BookA) : Prop where
  hU : 0 < U
  n1 : B.rows.length = A.rows.length
  n2 : A.lasts.length = A.rows.length
  n3 : A.steps.length = A.rows.length
  n4 : B.ends.length = A.rows.length
  n5 : wts.length = A.rows.length
  n6 : B.limits.length = A.rows.length
  ew : B.weights = wts
  wb : ∀ (k : Nat) x, wts[k]? = some x → 1 ≤ x ∧ x ≤ 5
  lim : ∀ (k : Nat) l a, B.limits[k]? = some l → A.rows[k]? = some a → a.most = l.1 ∧ a.mo = l.2
  rows : ∀ (k : Nat) a b, A.rows[k]? = some a → B.rows[k]? = some b → ItsRel U p a.its b
  steps : ∀ (k : Nat) x y, A.steps[k]? = some x → wts[k]? = some y → x * y = U
  lasts : ∀ (k : Nat) x y, A.lasts[k]? = some x → B.ends[k]? = some y → x * y.2 = U * y.1 ∧ FrB p y
  time : A.time * B.here.2 = U * B.here.1
  here : FrB p B.here
  cnt : ∀ (k : Nat) a, A.rows[k]? = some a → a.its.length ≤ p
theorem Joint.up {U wts p A B} (h : Joint U wts p A B) : Joint U wts (p + 1) A B :=
  { h with rows := fun k a b x y => (h.rows k a b x y).up, lasts := fun k x y a b => ⟨(h.lasts k x y a b).1, (h.lasts k x y a b).2.up⟩, here := h.here.up, cnt := fun k a x => Nat.le_succ_of_le (h.cnt k a x) }
theorem Joint.empty {U wts p A B} (h : Joint U wts p A B) : A.rows.all (·.its.isEmpty) = B.rows.all (·.isEmpty) := by
  rw [Bool.eq_iff_iff, List.all_eq_true, List.all_eq_true]
  constructor
  · intro e b hb
    obtain ⟨k, hk⟩ := List.getElem?_of_mem hb
    obtain ⟨a, ha⟩ := getSome (n := B.rows.length) h.n1.symm (List.getElem?_eq_some_iff.mp hk).1
    have h1 := e a (List.mem_of_getElem? ha)
    have h2 := (h.rows k a b ha hk).len
    rw [List.isEmpty_iff_length_eq_zero] at h1 ⊢
    (first | lia | omega)
  · intro e a ha
    obtain ⟨k, hk⟩ := List.getElem?_of_mem ha
    obtain ⟨b, hb⟩ := getSome h.n1 (List.getElem?_eq_some_iff.mp hk).1
    have h1 := e b (List.mem_of_getElem? hb)
    have h2 := (h.rows k a b hk hb).len
    rw [List.isEmpty_iff_length_eq_zero] at h1 ⊢
    (first | lia | omega)
theorem Joint.reset {U wts p A B} (h : Joint U wts p A B) : Joint U wts p A.reset B.reset := by
  unfold WfA.reset BookA.reset
  rw [h.empty]
  by_cases e : B.rows.all (·.isEmpty) = true
  · rw [if_pos e, if_pos e]
    refine { h with n2 := by simp, n4 := by simp [h.n1], lasts := fun k x y hx hy => ?_, time := by simp, here := FrB.one p }
    simp only [List.getElem?_replicate] at hx hy
    split at hx
    · split at hy
      · cases hx; cases hy
        exact ⟨by simp, FrB.one p⟩
      · cases hy
    · cases hx
  · rw [if_neg e, if_neg e]; exact h
theorem Joint.room {U wts p A B} (h : Joint U wts p A B) {k : Nat} {a b l} (ha : A.rows[k]? = some a) (hb : B.rows[k]? = some b) (hl : B.limits[k]? = some l) (m : Int) :
    ((a.its.length : Int) < a.most ∧ a.oct + m ≤ a.mo) ↔ ((b.length : Int) < l.1 ∧ bOct b + m ≤ l.2) := by
  have h1 := h.rows k a b ha hb
  obtain ⟨e1, e2⟩ := h.lim k l a hl ha
  unfold RowA.oct
  rw [h1.len, h1.sum, e1, e2]
theorem fr_max {U l t : Int} {x y : Int × Int} (hU : 0 < U) (h1 : l * y.2 = U * y.1) (h2 : t * x.2 = U * x.1) (hx : 0 < x.2) (hy : 0 < y.2) : max l t * (grt x y).2 = U * (grt x y).1 := by
  unfold grt
  have := fr_le hU h2 h1 hx hy
  split
  · next hc =>
    have hle := this.mpr hc
    rw [show max l t = t by omega]; exact h2
  · next hc =>
    have hle : ¬ l ≤ t := fun z => hc (this.mp z)
    rw [show max l t = l by omega]; exact h1
theorem modify_at {α : Type} {xs : List α} {k j : Nat} {g : α → α} {y : α} (h : (xs.modify k g)[j]? = some y) : ∃ x, xs[j]? = some x ∧ y = (if j = k then g x else x) := by
  rw [List.getElem?_modify] at h
  split at h
  · next e =>
    subst e
    cases hx : xs[k]? with
    | none => rw [hx] at h; cases h
    | some x => rw [hx] at h; simp at h; exact ⟨x, rfl, by rw [if_pos rfl]; exact h.symm⟩
  · next e =>
    refine ⟨y, ?_, ?_⟩
    · simpa using h
    · rw [if_neg (fun z => e z.symm)]
theorem Joint.added {U wts p A B} (h : Joint U wts p A B) {k : Nat} (hk : k < A.rows.length) {m : Int} (hm : 1 ≤ m ∧ m ≤ 9) (x : Int) (tx : Tok) : Joint U wts (p + 1) (A.added k m (.int x tx)) (B.added k m (.int x tx)) := by
  obtain ⟨l, hl⟩ := getSome h.n2 hk
  obtain ⟨s, hs⟩ := getSome h.n3 hk
  obtain ⟨e, he⟩ := getSome h.n4 hk
  obtain ⟨wt, hw⟩ := getSome h.n5 hk
  have hlD : A.lasts.getD k 0 = l := by rw [List.getD_eq_getElem?_getD, hl]; rfl
  have hsD : A.steps.getD k 0 = s := by rw [List.getD_eq_getElem?_getD, hs]; rfl
  have heD : B.ends.getD k (0, 0) = e := by rw [List.getD_eq_getElem?_getD, he]; rfl
  have hwD : B.weights.getD k 0 = wt := by rw [h.ew, List.getD_eq_getElem?_getD, hw]; rfl
  obtain ⟨hle, hfe⟩ := h.lasts k l e hl he
  have hsw := h.steps k s wt hs hw
  have hwb := h.wb k wt hw
  have hmax := fr_max h.hU hle h.time h.here.d0 hfe.d0
  have hfg := h.here.grt hfe
  have hA : A.next k m = max l A.time + m * s := by unfold WfA.next; rw [hlD, hsD]
  have hB : B.newEnd k m = ((grt B.here e).1 * wt + m * (grt B.here e).2, (grt B.here e).2 * wt) := by unfold BookA.newEnd bNew; rw [heD, hwD]
  have hfr : FrB (p + 1) (B.newEnd k m) := by rw [hB]; exact hfg.new hwb hm
  have key : A.next k m * (B.newEnd k m).2 = U * (B.newEnd k m).1 := by
    rw [hA, hB]
    show (max l A.time + m * s) * ((grt B.here e).2 * wt) = U * ((grt B.here e).1 * wt + m * (grt B.here e).2)
    rw [Int.add_mul, Int.mul_add, ← Int.mul_assoc (max l A.time), hmax, Int.mul_assoc U]
    congr 1
    rw [Int.mul_assoc m, ← hsw, Int.mul_comm (grt B.here e).2 wt, ← Int.mul_assoc s, Int.mul_left_comm m, Int.mul_left_comm (s * wt)]
  have hu := h.up
  refine { hu with n1 := by simp [WfA.added, BookA.added, h.n1], n2 := by simp [WfA.added, h.n2], n3 := by simp [WfA.added, h.n3], n4 := by simp [WfA.added, BookA.added, h.n4], n5 := by simp [WfA.added, h.n5], n6 := by simp [WfA.added, BookA.added, h.n6], lim := ?_, rows := ?_, lasts := ?_, cnt := ?_ }
  · intro j l2 a2 hl2 ha2
    obtain ⟨a, ha, rfl⟩ := modify_at ha2
    have := h.lim j l2 a hl2 ha
    split <;> exact this
  · intro j a2 b2 ha2 hb2
    obtain ⟨a, ha, rfl⟩ := modify_at ha2
    obtain ⟨b, hb, rfl⟩ := modify_at hb2
    have h1 := (h.rows j a b ha hb).up
    split
    · exact h1.snoc rfl ⟨rfl, _, _, rfl⟩ key hfr
    · exact h1
  · intro j x y hx hy
    have hx' : (A.lasts.set k (A.next k m))[j]? = some x := hx
    have hy' : (B.ends.set k (B.newEnd k m))[j]? = some y := hy
    rw [List.getElem?_set] at hx' hy'
    by_cases hj : k = j
    · subst hj
      rw [if_pos rfl, if_pos (by rw [h.n2]; exact hk)] at hx'
      rw [if_pos rfl, if_pos (by rw [h.n4]; exact hk)] at hy'
      cases hx'; cases hy'
      exact ⟨key, hfr⟩
    · rw [if_neg hj] at hx' hy'
      exact ⟨(h.lasts j x y hx' hy').1, (h.lasts j x y hx' hy').2.up⟩
  · intro j a2 ha2
    obtain ⟨a, ha, rfl⟩ := modify_at ha2
    have := h.cnt j a ha
    split <;> simp <;> (first | lia | omega)
theorem Joint.taken {U wts p A B} (h : Joint U wts p A B) {k : Nat} {a : RowA} {it : It} {its : List It} {bit : BIt} {bits : List BIt} (ha : A.rows[k]? = some a) (hi : a.its = it :: its) (hb : B.rows[k]? = some (bit :: bits)) :
    Joint U wts p (A.taken k it) (B.taken k bit) ∧ it.size = bit.size ∧ it.th = bit.th ∧ ∃ x t, it.th = Value.int x t := by
  have h1 := h.rows k a _ ha hb
  rw [hi] at h1
  cases h1 with
  | cons e1 e2 e3 e4 e5 =>
  refine ⟨{ h with n1 := by simp [WfA.taken, BookA.taken, h.n1], n2 := by simp [WfA.taken, h.n2], n3 := by simp [WfA.taken, h.n3], n4 := by simp [WfA.taken, BookA.taken, h.n4], n5 := by simp [WfA.taken, h.n5], n6 := by simp [WfA.taken, BookA.taken, h.n6], lim := ?_, rows := ?_, time := ?_, here := ?_, cnt := ?_ }, e1, e2⟩
  · intro j l2 a2 hl2 ha2
    obtain ⟨a, ha, rfl⟩ := modify_at ha2
    have := h.lim j l2 a hl2 ha
    split <;> exact this
  · intro j a2 b2 ha2 hb2
    obtain ⟨a, ha, rfl⟩ := modify_at ha2
    obtain ⟨b, hb, rfl⟩ := modify_at hb2
    have h1 := h.rows j a b ha hb
    split
    · show ItsRel U p a.its.tail b.tail
      generalize a.its = ai at h1
      cases h1 with
      | nil => exact .nil
      | cons _ _ _ _ r => exact r
    · exact h1
  · show max A.time it.fin * (grt B.here (bit.num, bit.den)).2 = U * (grt B.here (bit.num, bit.den)).1
    rw [Int.max_comm]
    exact fr_max h.hU e3 h.time h.here.d0 e4.d0
  · exact h.here.grt e4
  · intro j a2 ha2
    obtain ⟨a, ha, rfl⟩ := modify_at ha2
    have := h.cnt j a ha
    split
    · show a.its.tail.length ≤ p
      rw [List.length_tail]; omega
    · exact this
theorem Joint.heads {U wts p A B} (h : Joint U wts p A B) (hp : p ≤ 16) : BHs B U A.headFin := by
  intro j bit bits hb
  obtain ⟨a, ha⟩ := getSome (n := B.rows.length) h.n1.symm (List.getElem?_eq_some_iff.mp hb).1
  have h1 := h.rows j a _ ha hb
  generalize hi : a.its = ai at h1
  cases h1 with
  | cons e1 e2 e3 e4 e5 =>
    rw [headFin_eq ha hi]
    have := b_big p hp
    have n0 := e4.n0; have n1 := e4.n1; have d0 := e4.d0; have d1 := e4.d1
    exact ⟨⟨n0, by simp only at *; (first | lia | omega)⟩, ⟨d0, by simp only at *; (first | lia | omega)⟩, e3⟩
theorem klt_same {F : Nat → Int} {j k : Nat} (h1 : ¬ klt (F j, (j : Int)) (F k, (k : Int))) (h2 : ¬ klt (F k, (k : Int)) (F j, (j : Int))) : j = k := by
  unfold klt at *
  simp only at *
  omega
theorem Joint.endOk {U wts p A B} (h : Joint U wts p A B) (hp : p ≤ 16) {k : Nat} (hk : k < A.rows.length) : frOk (B.ends.getD k (0, 0)) := by
  obtain ⟨l, hl⟩ := getSome h.n2 hk
  obtain ⟨e, he⟩ := getSome h.n4 hk
  rw [List.getD_eq_getElem?_getD, he]
  exact (h.lasts k l e hl he).2.ok hp
theorem Joint.wOk {U wts p A B} (h : Joint U wts p A B) {k : Nat} (hk : k < A.rows.length) : 0 ≤ B.weights.getD k 0 ∧ B.weights.getD k 0 ≤ 1000 := by
  obtain ⟨wt, hw⟩ := getSome h.n5 hk
  rw [h.ew, List.getD_eq_getElem?_getD, hw]
  have := h.wb k wt hw
  show 0 ≤ wt ∧ wt ≤ 1000
  (first | lia | omega)
theorem Joint.noA {U wts p A B} (h : Joint U wts p A B) (ha : ∀ a ∈ A.rows, a.its = []) : ∀ b ∈ B.rows, b = [] := fun b hb => by
  obtain ⟨k, hk⟩ := List.getElem?_of_mem hb
  obtain ⟨a, haa⟩ := getSome (n := B.rows.length) h.n1.symm (List.getElem?_eq_some_iff.mp hk).1
  have h2 := (h.rows k a b haa hk).len
  rw [ha a (List.mem_of_getElem? haa)] at h2
  exact List.length_eq_zero_iff.mp h2.symm
theorem Joint.same {U wts p A B} (h : Joint U wts p A B) {k k2 : Nat} {a : RowA} {it : It} {its : List It} {bit : BIt} {bits : List BIt} (ha : A.rows[k]? = some a) (hi : a.its = it :: its)
    (hbest : ∀ (j : Nat) a', A.rows[j]? = some a' → a'.its ≠ [] → ¬ klt (A.headFin j, (j : Int)) (it.fin, (k : Int)))
    (hb : B.rows[k2]? = some (bit :: bits)) (hbest2 : ∀ (j : Nat) b', B.rows[j]? = some b' → b' ≠ [] → ¬ klt (A.headFin j, (j : Int)) (A.headFin k2, (k2 : Int))) : k2 = k := by
  obtain ⟨a2, ha2⟩ := getSome (n := B.rows.length) h.n1.symm (List.getElem?_eq_some_iff.mp hb).1
  have hne : a2.its ≠ [] := by
    have h2 := (h.rows k2 a2 _ ha2 hb).len
    intro e; rw [e] at h2; simp at h2
  obtain ⟨b2, hb2⟩ := getSome h.n1 (List.getElem?_eq_some_iff.mp ha).1
  have hne2 : b2 ≠ [] := by
    have h2 := (h.rows k a _ ha hb2).len
    intro e; rw [e, hi] at h2; simp at h2
  have q1 := hbest k2 a2 ha2 hne
  rw [← headFin_eq ha hi] at q1
  exact klt_same q1 (hbest2 k b2 hb2 hne2)
end
-- Jw0
example : True := by
  w_top off
  trivial
section
noncomputable def CellOk (o : Obj) : Prop := ∃ (c0 c1 : Int) (t0 t1 : Tok) (ep : Nat), o = listOf #[.int c0 t0, .int c1 t1] ep ∧ 0 ≤ c1 ∧ c1 < 2147483647
noncomputable def DrawP (ca : Nat) (top : Int) (v : Value) (post : Led) : Prop := ∃ (d : Int) (t : Tok) (o : Obj), v = .int d t ∧ 0 ≤ d ∧ d < top ∧ post = [(ca, o)] ∧ CellOk o
theorem drawC (w : World) (ca : Nat) (o : Obj) (top : Int) (tt : Tok) (ho : CellOk o) (h1 : 0 < top) (h2 : top ≤ 100) : Con w 347 [.ref ca, .int top tt] 1 8 [(ca, o)] (DrawP ca top) := by
  obtain ⟨c0, c1, t0, t1, ep, rfl, h3, h4⟩ := ho
  refine con_weaken (draw_con w ca c0 c1 top t0 t1 tt ep h3 h4 h1 h2) (fun p hp => hp) ?_ (Nat.le_refl _) (Nat.le_refl _)
  rintro v post ⟨d, c0', c1', t, t0', t1', ep', rfl, h5, h6, h7, h8, rfl⟩
  exact ⟨d, t, _, rfl, h5, h6, rfl, _, _, _, _, _, rfl, h7, h8⟩
theorem pick_app : ∀ (W R : Led), Pick W (W ++ R) R
  | [], _ => .nil
  | _ :: W, R => .cons .head (pick_app W R)
theorem con_pre {w : World} {f : Addr} {vs : List Value} {dn un0 : Nat} {W R : Led} {Post : Value → Led → Prop}
    {p : Program} {loose : List Str} {mean : ExcName → Option Value} {mg mb : Str → Option Value}
    {dp un : Nat} {gd : Option (List Code)} {cn : Str} {cs : Scope} {a : Addr} {ccd : Value} {cl : List (Str × Addr)} {outer : List Env} {A₀ : Around} {base h₀ : Heap} {L : Addr} {m : Str → Option Value}
    {s : Shared} {Q E : Value → Shared → Prop} {news : Led} (C : Con w f vs dn un0 W Post)
    (B : Below A₀ base outer h₀) (F : Fr h₀ L s.heap m) (X : (Mine.hd.heap_1 w.params).In h₀) (N : News h₀ L s.heap news) (T : Top p loose mean mg mb h₀) (hk : cs.kind = .function)
    (hd : dp + dn < recursionLimit) (hu : un + un0 < cLine) (hs : ∀ q ∈ W ++ R, q ∈ news) (hoff : ∀ p ∈ W, ∀ r ∈ R, p.1 ≠ r.1)
    (ret : ∀ r post h' tk', Post r post → Fr h₀ L h' m → News h₀ L h' (post ++ R) → (∀ p ∈ post, ∀ r ∈ R, p.1 ≠ r.1) → Q r { s with heap := h', toks := tk' }) :
    wpAny (model pw w) (ktrTop dp un gd cn cs L a ccd cl outer) (call (.ref f) vs) Q E s :=
  con_upd C B F X (kst_newsOf N hs) T hk (pick_app W R) (fun b hb r hr => by
    obtain ⟨p, hp, rfl⟩ := List.mem_map.mp hb
    exact (hoff p hp r hr).symm) hd hu fun r post h' tk' hP F' N' fr => ret r post h' tk' hP F' N' fun q hq r hr => by
      rcases fr q hq with h | h
      · obtain ⟨p, hp, e⟩ := List.mem_map.mp h
        rw [← e]; exact hoff p hp r hr
      · exact (h r (List.mem_append_right _ hr)).symm
theorem sum_cast : ∀ xs : List Nat, (xs.map fun (n : Nat) => (n : Int)).sum = ((xs.sum : Nat) : Int)
  | [] => rfl
  | x :: xs => by rw [List.map_cons, List.sum_cons, sum_cast xs, List.sum_cons]; push_cast; rfl
theorem WfOk.things {q : Nat} {I : WfI} {A : WfA} {R : Led} (h : WfOk q I A R) : thingsIn I.rows = (nItems A : Int) := by
  have e : I.rows.map (fun x => x.its.length) = A.rows.map fun a => a.its.length := by
    apply List.ext_getElem?
    intro i
    rw [List.getElem?_map, List.getElem?_map]
    cases hx : I.rows[i]? with
    | none =>
      have : A.rows[i]? = none := by
        rw [List.getElem?_eq_none_iff] at hx ⊢
        rw [← h.n1]; exact hx
      rw [this]; rfl
    | some x =>
      obtain ⟨f, a, _, ha, r⟩ := h.rowx hx
      rw [ha, Option.map_some, Option.map_some, r.ei.len]
  unfold thingsIn nItems
  rw [← e, ← sum_cast, List.map_map]
  rfl
theorem waitA (w : World) (q : Nat) (A : WfA) (R : Led) (hn : A.rows.length ≤ 100) (hz : ∀ a ∈ A.rows, a.its.length ≤ 1000) (hR : WfAt q A R) :
    ∃ pre : Led, (∀ p ∈ pre, p ∈ R) ∧ Con w 214 [.ref q] 1 200 pre (fun v post => (∃ t, v = .int (nItems A) t) ∧ post = pre) := by
  obtain ⟨I, h⟩ := hR
  have hlen : ∀ x ∈ I.rows, x.its.length ≤ 1000 := fun y hy => by
    obtain ⟨i, hi⟩ := List.getElem?_of_mem hy
    obtain ⟨_, b, _, hb, rb⟩ := h.rowx hi
    have := hz b (List.mem_of_getElem? hb)
    have := rb.ei.len
    (first | lia | omega)
  have C := waiting_con w q I.qd I.sa I.ra I.fa I.la I.T I.t1 I.t6 I.unit A.time I.ep2 I.rows (by rw [h.n1]; exact hn) hlen
  rw [h.things] at C
  refine ⟨_, ?_, C⟩
  intro p hp
  rcases List.mem_cons.mp hp with rfl | hp
  · exact h.m1
  rcases List.mem_cons.mp hp with rfl | hp
  · exact h.m2
  rcases List.mem_cons.mp hp with rfl | hp
  · exact h.m4
  · exact h.objs p hp

noncomputable def Dj (X : List Nat) (W Bk : Led) : Prop := (∀ p ∈ W, ∀ x ∈ X, p.1 ≠ x) ∧ (∀ p ∈ Bk, ∀ x ∈ X, p.1 ≠ x) ∧ ∀ p ∈ W, ∀ r ∈ Bk, p.1 ≠ r.1
theorem Dj.w {X : List Nat} {W Bk : Led} (h : Dj X W Bk) (XL : Led) (e : XL.map (·.1) = X) : ∀ p ∈ W, ∀ r ∈ XL ++ Bk, p.1 ≠ r.1 := fun p hp r hr => by
  rcases List.mem_append.mp hr with hr | hr
  · exact h.1 p hp r.1 (by rw [← e]; exact List.mem_map.mpr ⟨r, hr, rfl⟩)
  · exact h.2.2 p hp r hr
theorem Dj.b {X : List Nat} {W Bk : Led} (h : Dj X W Bk) (XL : Led) (e : XL.map (·.1) = X) : ∀ p ∈ Bk, ∀ r ∈ XL ++ W, p.1 ≠ r.1 := fun p hp r hr => by
  rcases List.mem_append.mp hr with hr | hr
  · exact h.2.1 p hp r.1 (by rw [← e]; exact List.mem_map.mpr ⟨r, hr, rfl⟩)
  · exact (h.2.2 r hr p hp).symm
theorem Dj.setW {X : List Nat} {W W' Bk : Led} (h : Dj X W Bk) (XL : Led) (e : XL.map (·.1) = X) (k : ∀ p ∈ W', ∀ r ∈ XL ++ Bk, p.1 ≠ r.1) : Dj X W' Bk :=
  ⟨fun p hp x hx => by
    rw [← e] at hx
    obtain ⟨r, hr, rfl⟩ := List.mem_map.mp hx
    exact k p hp r (List.mem_append_left _ hr), h.2.1, fun p hp r hr => k p hp r (List.mem_append_right _ hr)⟩
theorem Dj.setB {X : List Nat} {W Bk Bk' : Led} (h : Dj X W Bk) (XL : Led) (e : XL.map (·.1) = X) (k : ∀ p ∈ Bk', ∀ r ∈ XL ++ W, p.1 ≠ r.1) : Dj X W Bk' :=
  ⟨h.1, fun p hp x hx => by
    rw [← e] at hx
    obtain ⟨r, hr, rfl⟩ := List.mem_map.mp hx
    exact k p hp r (List.mem_append_left _ hr), fun p hp r hr => (k r hr p (List.mem_append_right _ hp)).symm⟩
theorem Dj.cell {ca : Nat} {X : List Nat} {W Bk : Led} (h : Dj (ca :: X) W Bk) (o : Obj) (XL : Led) (e : XL.map (·.1) = X) (hx : ∀ x ∈ X, ca ≠ x) : ∀ p ∈ ([(ca, o)] : Led), ∀ r ∈ XL ++ (W ++ Bk), p.1 ≠ r.1 := fun p hp r hr => by
  rw [List.mem_singleton.mp hp]
  rcases List.mem_append.mp hr with hr | hr
  · exact hx _ (by rw [← e]; exact List.mem_map.mpr ⟨r, hr, rfl⟩)
  rcases List.mem_append.mp hr with hr | hr
  · exact (h.1 r hr ca (.head _)).symm
  · exact (h.2.1 r hr ca (.head _)).symm
theorem Dj.sub {X X' : List Nat} {W Bk : Led} (h : Dj X W Bk) (k : ∀ x ∈ X', x ∈ X) : Dj X' W Bk := ⟨fun p hp x hx => h.1 p hp x (k x hx), fun p hp x hx => h.2.1 p hp x (k x hx), h.2.2⟩
theorem Dj.off {X : List Nat} {W Bk : Led} (h : Dj X W Bk) {x : Nat} (hx : x ∈ X) : ∀ p ∈ W ++ Bk, p.1 ≠ x := fun p hp => by
  rcases List.mem_append.mp hp with hp | hp
  · exact h.1 p hp x hx
  · exact h.2.1 p hp x hx
theorem BookAt.weights {w : World} {b wa : Nat} {B : BookA} {R : Led} (h : BookAt w b wa B R) : ∃ (vs : List Value) (ep : Nat), (wa, listOf vs.toArray ep) ∈ R ∧ vs.length = B.rows.length := by
  obtain ⟨I, rfl, h⟩ := h
  exact ⟨I.wvs, I.epw, h.m1, by rw [h.hw.length, h.n1]⟩
theorem Joint.start {U : Int} {ws : List Int} {lims : List (Int × Int)} (hU : 0 < U) (hd : ∀ x ∈ ws, x ∣ U) (hb : ∀ x ∈ ws, 1 ≤ x ∧ x ≤ 5) (hl : lims.length = ws.length) :
    Joint U ws 0 { rows := lims.map fun l => ⟨l.1, l.2, []⟩, lasts := List.replicate ws.length 0, steps := ws.map fun x => Int.fdiv U x, time := 0 }
      { weights := ws, limits := lims, rows := ws.map fun _ => [], here := (0, 1), ends := List.replicate ws.length (0, 1) } := by
  refine ⟨hU, by simp [hl], by simp [hl], by simp [hl], by simp [hl], by simp [hl], by simp, rfl, fun k x hx => hb x (List.mem_of_getElem? hx), ?_, ?_, ?_, ?_, by simp, FrB.one 0, ?_⟩
  · intro k l a hl ha
    simp only [List.getElem?_map] at ha hl
    rw [hl] at ha
    cases ha
    exact ⟨rfl, rfl⟩
  · intro k a b ha hb
    simp only [List.getElem?_map, Option.map_eq_some_iff] at ha hb
    obtain ⟨_, _, rfl⟩ := ha
    obtain ⟨_, _, rfl⟩ := hb
    exact .nil
  · intro k x y hx hy
    simp only [List.getElem?_map] at hx
    rw [hy] at hx
    cases hx
    have hy1 := hb y (List.mem_of_getElem? hy)
    obtain ⟨c, rfl⟩ := hd y (List.mem_of_getElem? hy)
    show Int.fdiv (y * c) y * y = y * c
    rw [Int.fdiv_eq_ediv_of_nonneg _ (by (first | lia | omega)), Int.mul_ediv_cancel_left _ (by (first | lia | omega)), Int.mul_comm]
  · intro k x y hx hy
    simp only [List.getElem?_replicate] at hx hy
    by_cases hk : k < ws.length
    · rw [if_pos hk] at hx hy
      cases hx; cases hy
      exact ⟨by simp, FrB.one 0⟩
    · rw [if_neg hk] at hx; cases hx
  · intro k a ha
    simp only [List.getElem?_map, Option.map_eq_some_iff] at ha
    obtain ⟨_, _, rfl⟩ := ha
    exact Nat.le_refl _
theorem Joint.nz {U wts p A B} (h : Joint U wts p A B) (hp : p ≤ 1000) : (∀ a ∈ A.rows, a.its.length ≤ 1000) ∧ ∀ b ∈ B.rows, b.length ≤ 1000 := by
  refine ⟨fun a ha => ?_, fun b hb => ?_⟩
  · obtain ⟨k, hk⟩ := List.getElem?_of_mem ha
    have := h.cnt k a hk; (first | lia | omega)
  · obtain ⟨k, hk⟩ := List.getElem?_of_mem hb
    obtain ⟨a, ha⟩ := getSome (n := B.rows.length) h.n1.symm (List.getElem?_eq_some_iff.mp hk).1
    have h1 := h.cnt k a ha
    have h2 := (h.rows k a b ha hk).len
    (first | lia | omega)
theorem range_item {a : Int} {n i : Nat} {it : Itm} {v : Value} {h : Heap} (hit : (rangeItems a n)[i]? = some it) (hv : it.Is v h) : i < n ∧ ∃ t, v = .int (a + (i : Int)) t := by
  have hi := (List.getElem?_eq_some_iff.mp hit).1
  simp only [rangeItems, List.length_map, List.length_range] at hi
  simp only [rangeItems, List.getElem?_map, List.getElem?_range hi, Option.map_some, Option.some.injEq] at hit
  subst hit
  exact ⟨hi, hv⟩

theorem nItems_zero {A : WfA} (h : nItems A = 0) : ∀ a ∈ A.rows, a.its = [] := by
  unfold nItems at h
  intro a ha
  have : ∀ (xs : List Nat), xs.sum = 0 → ∀ x ∈ xs, x = 0 := by
    intro xs
    induction xs with
    | nil => intro _ x hx; cases hx
    | cons y ys ih =>
      intro hs x hx
      rw [List.sum_cons] at hs
      rcases List.mem_cons.mp hx with rfl | hx
      · (first | lia | omega)
      · exact ih (by (first | lia | omega)) x hx
  exact List.length_eq_zero_iff.mp (this _ h _ (List.mem_map.mpr ⟨a, ha, rfl⟩))
theorem nItems_none {A : WfA} (h : ∀ a ∈ A.rows, a.its = []) : nItems A = 0 := by
  unfold nItems
  have : A.rows.map (fun a => a.its.length) = A.rows.map fun _ => 0 := List.map_congr_left fun a ha => by rw [h a ha]; rfl
  rw [this]
  generalize A.rows = xs
  induction xs with
  | nil => rfl
  | cons x xs ih => rw [List.map_cons, List.sum_cons, ih]
theorem sum_set (xs : List Nat) : ∀ (k x y : Nat), xs[k]? = some x → (xs.set k y).sum + x = xs.sum + y := by
  induction xs with
  | nil => intro k x y h; simp at h
  | cons z zs ih =>
    intro k x y h
    cases k with
    | zero => simp at h; subst h; simp; (first | lia | omega)
    | succ k => simp at h; have := ih k x y h; simp; (first | lia | omega)
theorem nItems_taken {A : WfA} {k : Nat} {a : RowA} {it : It} {its : List It} (ha : A.rows[k]? = some a) (hi : a.its = it :: its) : nItems (A.taken k it) + 1 = nItems A := by
  unfold nItems WfA.taken
  rw [modify_set (fun a : RowA => ({ a with its := a.its.tail } : RowA)) ha, List.map_set]
  have := sum_set (A.rows.map fun a => a.its.length) k a.its.length a.its.tail.length (by rw [List.getElem?_map, ha]; rfl)
  rw [hi] at this
  simp only [List.tail_cons, List.length_cons] at this
  rw [hi]
  simp only [List.tail_cons]
  (first | lia | omega)
theorem dj_end {ca c : Nat} {W Bk : Led} (h : Dj [ca, c] W Bk) : True := trivial
end
-- Jw
example : True := by
  w_top off
  trivial
section
noncomputable def Cellp (ca : Nat) (v : Value) (post : Led) : Prop := v = .bool true ∧ ∃ o, post = [(ca, o)] ∧ CellOk o
theorem off3_mk {I C D : Nat} {oI oC oD : Obj} {R R' : Led} (off : LCg.Off3 I C D R) (hs : ∀ p ∈ R', p ∈ R ∨ ∀ q ∈ ((I, oI) :: (C, oC) :: (D, oD) :: R : Led), q.1 ≠ p.1) : LCg.Off3 I C D R' :=
  LCg.Off3.of fun p hp => by
    rcases hs p hp with h | h
    · exact off.mem p h
    · exact ⟨(h _ (.head _)).symm, (h _ (.tail _ (.head _))).symm, (h _ (.tail _ (.tail _ (.head _)))).symm⟩
noncomputable def FrInv (x0 : Int × Int) (W0 : Led) (i : Nat) (ys : List Value) (news : Led) : Prop := ∃ T : Led, news = T ++ W0 ∧ FrsAre T ys (List.replicate i x0) ∧ ∀ p ∈ T, ∀ q ∈ W0, p.1 ≠ q.1
theorem frInv_nil {x0 : Int × Int} {W0 : Led} : FrInv x0 W0 0 [] W0 := ⟨[], rfl, .nil, fun _ h => (nomatch h)⟩
theorem FrInv.add {x0 : Int × Int} {W0 : Led} {i : Nat} {ys : List Value} {news : Led} (h : FrInv x0 W0 i ys news) {l : Nat} (t u : Tok) (hf : ∀ p ∈ news, p.1 ≠ l) : FrInv x0 W0 (i + 1) (ys ++ [.ref l]) ((l, tupOf #[.int x0.1 t, .int x0.2 u] 0) :: news) := by
  obtain ⟨T, rfl, h1, h2⟩ := h
  refine ⟨(l, tupOf #[.int x0.1 t, .int x0.2 u] 0) :: T, rfl, ?_, fun p hp q hq => ?_⟩
  · rw [List.replicate_succ']
    exact (h1.mono fun a x hx => .tail _ hx).snoc (.head _)
  · rcases List.mem_cons.mp hp with rfl | hp
    · exact (hf q (List.mem_append_right _ hq)).symm
    · exact h2 p hp q hq
theorem allLt_at {d : Nat} : ∀ {l : Led}, AllLt d l → ∀ p ∈ l, p.1 < d
  | [], _, _, h => nomatch h
  | _ :: _, x, p, h => by
    rcases List.mem_cons.mp h with rfl | h
    · exact x.1
    · exact allLt_at x.2 p h
theorem news_swap7 {h₀ h : Heap} {L : Addr} {A R : Led} {x a b c d e f g : Addr × Obj} (N : News h₀ L h (x :: (A ++ a :: b :: c :: d :: e :: f :: g :: R))) : News h₀ L h (x :: a :: b :: c :: d :: e :: f :: g :: (A ++ R)) := fun p hp => N p (by
  simp only [List.mem_cons, List.mem_append] at hp ⊢
  rcases hp with h | h | h | h | h | h | h | h | h | h <;> simp [h])
noncomputable def JInv (w : World) (ca dB D1 c q : Nat) (c1 : Obj) (U : Int) (ws : List Int) (X : List Nat) (i : Nat) (m : Str → Option Value) (news : Led) : Prop :=
  ∃ (o : Obj) (W Bk : Led) (A : WfA) (B : BookA), news = (ca, o) :: (c, c1) :: (W ++ Bk) ∧ CellOk o ∧ WfAt q A W ∧ BookAt w dB D1 B Bk ∧ Dj X W Bk ∧ Joint U ws i A B ∧ AllM m [(Str.ofString "weights", .ref D1), (Str.ofString "book", .ref dB), (Str.ofString "queues", .ref q)]
theorem dj_off {ca c It : Nat} {o c1 oI : Obj} {W Bk : Led} (hcI : ca ≠ It) (hcI2 : c ≠ It) (h : Dj [ca, c, It] W Bk) : ∀ p ∈ ((ca, o) :: (c, c1) :: (W ++ Bk) : Led), ∀ q ∈ ([(It, oI)] : Led), p.1 ≠ q.1 := fun p hp q hq => by
  rw [List.mem_singleton.mp hq]
  rcases List.mem_cons.mp hp with rfl | hp
  · exact hcI
  rcases List.mem_cons.mp hp with rfl | hp
  · exact hcI2
  · exact h.off (by simp) p hp
theorem ko1 {ca : Nat} {o : Obj} {R : Led} (h : ∀ r ∈ R, ca ≠ r.1) : ∀ p ∈ ([(ca, o)] : Led), ∀ r ∈ R, p.1 ≠ r.1 := fun p hp r hr => by
  rw [List.mem_singleton.mp hp]; exact h r hr
section
open EpsOn EpsNf
theorem weighted_con (w : World) (ca : Nat) (o : Obj) (ho : CellOk o) : Con w 376 [.ref ca] 10 600 [(ca, o)] (Cellp ca) := by
  revert w ca o ho
  intro w ca o ho
  refine con_cx ?_
  k_extra "cx"
  intro B F X N T hk hd hu hret
  refine wpAny_call ?_
  k_dflt (cell_ask (true, [(Str.ofString "cells", .ref ca)]))
  rename_i g1 L1 h1 tk1 FG1 F1 B1 X1 T1 hin1 l11 c1 d1 N1
  replace F1 : Fr g1 L1 h1 (fun _ => none) := F1
  replace d1 : c1.data = Data.cell (some (.ref ca)) := d1
  have hcl : NeA ca (L1 + 1) := by unfold NeA; (first | lia | omega)
  k_with "con" => (refine hold ?_)
  k_with "rest" => (refine hold ?_)
  k_with "restP" => (refine hold ?_)
  k_with "min" => (refine hold ?_)
  k_with "raise" => (refine hold ?_)
  k_with "items" => (refine hold ?_)
  k_with "while" => (refine hold ?_)
  k_steps
  unfold Hold
  refine' con_pre (R := [(L1 + 1, c1)]) (drawC w ca o 2 _ ho (by decide) (by decide)) ?k1 ?k2 ?k3 ?k4 ?k5 ?kK ?kd ?ku ?kp ?ko ?_
  cell_call
  (case kp => lcg_sub)
  (case ko => simp; exact hcl)
  rintro r' post h' tk' ⟨d0, td0, o0, rfl, hd0, hd0', rfl, ho0⟩ F' N' fr'
  clear fr' ho
  (try simp only [List.cons_append, List.nil_append] at N')
  k_steps
  rotate_left
  · rw [sizeLine_eq]; (first | lia | omega)
  unfold Hold
  have hnn : (2 + d0 - 0).toNat = 2 + d0.toNat := by (first | lia | omega)
  rw [hnn]
  refine compRest_ind (fun i ys news => ∃ (o : Obj) (ws : List Int), news = [(ca, o), (L1 + 1, c1)] ∧ CellOk o ∧ IntsAre ys ws ∧ ws.length = i ∧ ∀ x ∈ ws, 1 ≤ x ∧ x ≤ 5) ?turn1 ?fin1 _ _ _ _ (Nat.zero_add _) ⟨o0, [], rfl, ho0, .nil, rfl, by simp⟩
  case turn1 =>
    intro i ys news v I oI C oC D m₂ h tk E' hi hInv hP hC hx F2 N2 off1 ne1
    obtain ⟨o, ws, rfl, ho, hys, hl, hb⟩ := hInv
    k_steps
    unfold Hold
    refine' con_pre (R := [(L1 + 1, c1), (I, oI), (C, oC), (D, LCg.lst ys)]) (drawC w ca o 5 _ ho (by decide) (by decide)) ?k1 ?k2 ?k3 ?k4 ?k5 ?kK ?kd ?ku ?kp ?ko ?_
    cell_call
    (case kp => lcg_sub)
    (case ko =>
      have := off1.mem (ca, o) (by k_mem)
      simp; exact ⟨hcl, this.1, this.2.1, this.2.2⟩)
    rintro r' post h' tk' ⟨d, td, o', rfl, hd1, hd2, rfl, ho'⟩ F' N' fr'
    (try simp only [List.cons_append, List.nil_append] at N')
    k_steps
    refine LCg.CompEnd.intro (by assumption) (by assumption) [(ca, o'), (L1 + 1, c1)] (by lcg_sub) ?_ (by trivial) ⟨o', ws ++ [1 + d], rfl, ho', ints_snoc hys _ _, by simp [hl], fun x hx => ?_⟩
    · refine LCg.Off3.of fun p hp => ?_
      rcases List.mem_cons.mp hp with rfl | hp
      · exact off1.mem (ca, o) (.head _)
      · exact off1.mem _ (.tail _ hp)
    · rcases List.mem_append.mp hx with hx | hx
      · exact hb x hx
      · rw [List.mem_singleton.mp hx]; (first | lia | omega)
  case fin1 =>
    intro ys news hInv
    obtain ⟨o1, ws, rfl, ho1, hys, hwl, hwb⟩ := hInv
    intro D1 h1 tk1 F1 N1 off1
    have off1' := off1_mem off1
    have hD1c : NeA ca D1 := off1' (ca, _) (.head _)
    have hysl := hys.length
    clear off1
    k_steps
    rotate_left
    · rw [List.size_toArray, sizeLine_eq]; (first | lia | omega)
    unfold Hold
    refine compRest_ind (fun i zs news => ∃ (o : Obj) (T : Led) (lims : List (Int × Int)), news = (D1, LCg.lst ys) :: (ca, o) :: (L1 + 1, c1) :: T ∧ CellOk o ∧ FrsAre T zs lims ∧ lims.length = i ∧ (∀ x ∈ lims, 1 ≤ x.1 ∧ 1 ≤ x.2) ∧ (∀ p ∈ T, ca ≠ p.1 ∧ D1 ≠ p.1 ∧ L1 + 1 ≠ p.1)) ?turn2 ?fin2 _ _ _ _ (Nat.zero_add _) ⟨o1, [], [], rfl, ho1, .nil, rfl, by simp, fun _ h => (nomatch h)⟩
    case turn2 =>
      intro i zs news v I oI C oC D m₂ h tk E' hi hInv hP hC hx F2 N2 off1 ne1
      obtain ⟨o, T, lims, rfl, ho, hzs, hl, hb, hT⟩ := hInv
      have hko : ∀ r ∈ ((I, oI) :: (C, oC) :: (D, LCg.lst zs) :: (D1, LCg.lst ys) :: (L1 + 1, c1) :: T : Led), ca ≠ r.1 := by
        have := off1.mem (ca, o) (by k_mem)
        intro r hr
        rcases List.mem_cons.mp hr with rfl | hr
        · exact this.1
        rcases List.mem_cons.mp hr with rfl | hr
        · exact this.2.1
        rcases List.mem_cons.mp hr with rfl | hr
        · exact this.2.2
        rcases List.mem_cons.mp hr with rfl | hr
        · exact hD1c
        rcases List.mem_cons.mp hr with rfl | hr
        · exact hcl
        · exact (hT r hr).1
      k_steps
      unfold Hold
      refine' con_pre (R := (I, oI) :: (C, oC) :: (D, LCg.lst zs) :: (D1, LCg.lst ys) :: (L1 + 1, c1) :: T) (drawC w ca o 3 _ ho (by decide) (by decide)) ?k1 ?k2 ?k3 ?k4 ?k5 ?kK ?kd ?ku ?kp (ko1 hko) ?_
      cell_call
      (case kp => lcg_sub)
      rintro r' post h' tk' ⟨da, ta, o', rfl, ha1, ha2, rfl, ho'⟩ F' N' fr'
      clear fr'
      (try simp only [List.cons_append, List.nil_append] at N')
      k_steps
      unfold Hold
      refine' con_pre (R := (I, oI) :: (C, oC) :: (D, LCg.lst zs) :: (D1, LCg.lst ys) :: (L1 + 1, c1) :: T) (drawC w ca o' 20 _ ho' (by decide) (by decide)) ?k1 ?k2 ?k3 ?k4 ?k5 ?kK ?kd ?ku ?kp (ko1 hko) ?_
      cell_call
      (case kp => lcg_sub)
      rintro r' post h' tk' ⟨db, tb, o'', rfl, hb1, hb2, rfl, ho''⟩ F' N' fr'
      clear fr'
      (try simp only [List.cons_append, List.nil_append] at N')
      k_steps
      rename (∀ p ∈ ((_, _) :: _ : Led), _ < _) => hfr
      refine' LCg.CompEnd.intro ?F1 ?N1 ((D1, LCg.lst ys) :: (ca, o'') :: (L1 + 1, c1) :: (_, tupOf #[.int (1 + da) _, .int (6 + db) _] 0) :: T) ?sub ?off (Or.inr ⟨LCg.lst ys, .head _, rfl, _, rfl⟩) ?inv
      (case F1 => assumption)
      (case N1 => assumption)
      (case sub => lcg_sub)
      case off =>
        have h1 := hfr (I, oI) (by k_mem)
        have h2 := hfr (C, oC) (by k_mem)
        have h3 := hfr (D, LCg.lst zs) (by k_mem)
        refine LCg.Off3.of fun p hp => ?_
        rcases List.mem_cons.mp hp with rfl | hp
        · exact off1.mem (D1, _) (by k_mem)
        rcases List.mem_cons.mp hp with rfl | hp
        · exact off1.mem (ca, o) (by k_mem)
        rcases List.mem_cons.mp hp with rfl | hp
        · exact off1.mem (L1 + 1, c1) (by k_mem)
        rcases List.mem_cons.mp hp with rfl | hp
        · exact ⟨(Nat.ne_of_lt h1).symm, (Nat.ne_of_lt h2).symm, (Nat.ne_of_lt h3).symm⟩
        · exact off1.mem p (by k_mem)
      case inv =>
        have h1 := hfr (ca, o'') (by k_mem)
        have h2 := hfr (D1, LCg.lst ys) (by k_mem)
        have h3 := hfr (L1 + 1, c1) (by k_mem)
        refine ⟨o'', _, lims ++ [(1 + da, 6 + db)], rfl, ho'', ?_, by simp [hl], fun x hx => ?_, fun p hp => ?_⟩
        · exact (hzs.mono fun a x hx => .tail _ hx).snoc (x := (1 + da, 6 + db)) (.head _)
        · rcases List.mem_append.mp hx with hx | hx
          · exact hb x hx
          · rw [List.mem_singleton.mp hx]; constructor <;> dsimp only <;> (first | lia | omega)
        · rcases List.mem_cons.mp hp with rfl | hp
          · exact ⟨Nat.ne_of_lt h1, Nat.ne_of_lt h2, Nat.ne_of_lt h3⟩
          · exact hT p hp
    case fin2 =>
      intro zs news hInv
      obtain ⟨o2, T, lims, rfl, ho2, hzs, hll, hlb, hT⟩ := hInv
      rw [List.size_toArray] at hll
      intro D2 h2 tk2 F2 N2 off2
      have off2' := off1_mem off2
      k_steps
      rotate_left
      · rw [List.size_toArray, sizeLine_eq]; (first | lia | omega)
      unfold Hold
      rename_i dB _ oB FB NB loB hdB lB _
      refine compRest_ind (FinsInv _) ?turn3 ?fin3 _ _ _ _ (Nat.zero_add _) finsInv_nil
      case turn3 =>
        intro i zs news v I oI C oC D m₂ h tk E' hi hInv hP hC hx F2 N2 off1 ne1
        k_steps
        rename_i l5 h5 F5 N5 fr5
        obtain ⟨news', hI', hs', hW'⟩ := hInv.add ⟨l5, 0, []⟩ rfl (fun p hp => Nat.ne_of_lt (fr5 p (.tail _ (.tail _ (.tail _ hp)))))
        refine LCg.CompEnd.intro (by assumption) (by assumption) news' (fun p hp => ?_) (LCg.Off3.of fun p hp => ?_) (Or.inr ⟨_, hW' _ (by k_mem), rfl, _, rfl⟩) hI'
        · rcases List.mem_cons.mp hp with rfl | hp
          · k_mem
          rcases List.mem_cons.mp hp with rfl | hp
          · k_mem
          rcases List.mem_cons.mp hp with rfl | hp
          · k_mem
          rcases List.mem_cons.mp (hs' p hp) with rfl | hp
          · exact .head _
          · exact .tail _ (.tail _ (.tail _ (.tail _ hp)))
        · rcases List.mem_cons.mp (hs' p hp) with rfl | hp
          · exact ⟨(Nat.ne_of_lt (fr5 _ (.head _))).symm, (Nat.ne_of_lt (fr5 _ (.tail _ (.head _)))).symm, (Nat.ne_of_lt (fr5 _ (.tail _ (.tail _ (.head _))))).symm⟩
          · exact off1.mem p hp
      case fin3 =>
        intro rs news hInv
        obtain ⟨fs, rfl, rfl, hfl, hfk, hfw, hfv⟩ := hInv
        rw [List.size_toArray] at hfl
        intro D3 h3 tk3 F3 N3 off3
        have off3' := off1_mem off3
        replace N3 := news_swap5 N3
        have hT2 : ∀ p ∈ T, p.1 ≠ dB := fun p hp => by
          exact Nat.ne_of_lt (allLt_at lB.2.2.2.2 p hp)
        have hD3d : NeA dB D3 := off3' (dB, oB) (List.mem_append_right _ (.head _))
        obtain ⟨R2, hR2⟩ : ∃ R2, R2 = finsObjs fs ++ T := ⟨_, rfl⟩
        rw [← hR2] at N3
        have hoffB : OwnOff R2 [dB] := fun p hp b hb => by
          rw [List.mem_singleton.mp hb]
          rw [hR2] at hp
          rcases List.mem_append.mp hp with hp | hp
          · exact hfw p hp (dB, oB) (.head _)
          · exact hT2 p hp
        clear off3 off2
        k_steps
        rotate_left
        · rw [List.size_toArray, sizeLine_eq]; (first | lia | omega)
        unfold Hold
        rename_i lA _ lH _ oA hdA _ FA NA _
        refine compRest_ind (FrInv (0, 1) _) ?turn4 ?fin4 _ _ _ _ (Nat.zero_add _) frInv_nil
        case turn4 =>
          intro i zs news v I oI C oC D m₂ h tk E' hi hInv hP hC hx F2 N2 off1 ne1
          k_steps
          rename_i l5 h5 F5 N5 fr5
          have hI' := hInv.add (l := l5) (tk) (tk + 1) (fun p hp => Nat.ne_of_lt (fr5 p (.tail _ (.tail _ (.tail _ hp)))))
          refine LCg.CompEnd.intro (by assumption) (by assumption) ((l5, tupOf #[.int 0 tk, .int 1 (tk + 1)] 0) :: news) (by lcg_sub) (LCg.Off3.of fun p hp => ?_) (Or.inr ⟨LCg.lst ys, ?_, rfl, _, rfl⟩) hI'
          · rcases List.mem_cons.mp hp with rfl | hp
            · exact ⟨(Nat.ne_of_lt (fr5 _ (.head _))).symm, (Nat.ne_of_lt (fr5 _ (.tail _ (.head _)))).symm, (Nat.ne_of_lt (fr5 _ (.tail _ (.tail _ (.head _))))).symm⟩
            · exact off1.mem p hp
          · obtain ⟨T4, rfl, _⟩ := hInv
            exact .tail _ (List.mem_append_right _ (by k_mem))
        case fin4 =>
          intro es news hInv
          obtain ⟨T4, rfl, hes, hT4⟩ := hInv
          rw [List.size_toArray, hysl] at hes
          intro D4 h4 tk4 F4 N4 off4
          have off4' := off1_mem off4
          replace N4 := news_swap7 N4
          have hD4d : NeA dB D4 := off4' (dB, _) (List.mem_append_right _ (by k_mem))
          obtain ⟨R3, hR3⟩ : ∃ R3, R3 = T4 ++ R2 := ⟨_, rfl⟩
          rw [← hR3] at N4
          have hoffB3 : OwnOff R3 [dB] := fun p hp b hb => by
            rw [List.mem_singleton.mp hb]
            rw [hR3] at hp
            rcases List.mem_append.mp hp with hp | hp
            · exact hT4 p hp (dB, _) (by k_mem)
            · exact hoffB p hp dB (.head _)
          clear off4 hoffB
          k_steps
          unfold Hold
          rename_i oE F5 N5 hE
          have hwl : ws.length = 2 + d0.toNat := ‹ws.length = 2 + d0.toNat›
          have hlA : ∀ p ∈ R2, p.1 < lA := fun p hp => lH p (by k_mem)
          have hR2T : ∀ p ∈ T, p ∈ R2 := fun p hp => by rw [hR2]; exact List.mem_append_right _ hp
          have hR2f : ∀ p ∈ finsObjs fs, p ∈ R2 := fun p hp => by rw [hR2]; exact List.mem_append_left _ hp
          have hR3R : ∀ p ∈ R2, p ∈ R3 := fun p hp => by rw [hR3]; exact List.mem_append_right _ hp
          have hR3T : ∀ p ∈ T4, p ∈ R3 := fun p hp => by rw [hR3]; exact List.mem_append_left _ hp
          generalize hBK : ((D4, LCg.lst es) :: (lA, tupOf #[.int 0 (tk3 + 1), .int 1 (tk3 + 1 + 1)] 0) :: (D3, LCg.lst (finRefs fs)) :: (dB, oE) :: (D2, LCg.lst zs) :: (D1, LCg.lst ys) :: R3 : Led) = BK
          have hbook : BookAt w dB D1 { weights := ws, limits := lims, rows := ws.map fun _ => [], here := (0, 1), ends := List.replicate ws.length (0, 1) } BK := by
            have hfm : ∀ f ∈ fs, (f.k, listOf f.vs.toArray f.ep) ∈ BK := fun f hf => by
              rw [← hBK]
              have := hR3R _ (hR2f _ (List.mem_map.mpr ⟨f, hf, rfl⟩))
              k_mem
            have hkm : ∀ k ∈ fs.map (·.k), ∃ o, (k, o) ∈ finsObjs fs := fun k hk => by
              obtain ⟨f, hf, rfl⟩ := List.mem_map.mp hk
              exact ⟨_, List.mem_map.mpr ⟨f, hf, rfl⟩⟩
            have hbr : (fs.map fun f => (⟨f.k, f.ep, f.vs⟩ : BRw)).map (·.a) = fs.map (·.k) := by rw [List.map_map]; rfl
            refine ⟨⟨oE, D1, D2, D3, lA, D4, ys, zs, es, fs.map fun f => ⟨f.k, f.ep, f.vs⟩, ys.length, zs.length, (finRefs fs).length, es.length, tk3 + 1, tk3 + 1 + 1⟩, rfl, ?_⟩
            refine ⟨by rw [← hBK]; k_mem, hE, by rw [← hBK]; simp [LCg.lst], by rw [← hBK]; simp [LCg.lst], ?_, by rw [← hBK]; k_mem, by rw [← hBK]; simp [LCg.lst], hys, ?_, ?_, by simp, ?_, by simp, ?_, ?_, ?_⟩
            · have e : brwRefs (fs.map fun f => ⟨f.k, f.ep, f.vs⟩) = finRefs fs := by simp [brwRefs, finRefs]
              rw [e, ← hBK]
              simp [LCg.lst]
            · exact hzs.mono fun a x hx => by
                rw [← hBK]
                have := hR3R _ (hR2T _ hx)
                k_mem
            · exact hes.mono fun a x hx => by
                rw [← hBK]
                have := hR3T _ hx
                k_mem
            · simp [hll, hysl]
            · simp [hfl, hysl]
            · intro i x a hx ha
              simp only [List.getElem?_map, Option.map_eq_some_iff] at hx ha
              obtain ⟨f, hf, rfl⟩ := hx
              obtain ⟨_, _, rfl⟩ := ha
              have := hfv f (List.mem_of_getElem? hf)
              exact ⟨hfm f (List.mem_of_getElem? hf), by dsimp only; rw [this]; exact .nil⟩
            · dsimp only
              rw [hbr]
              simp only [List.nodup_cons, List.mem_cons, not_or]
              refine ⟨⟨off2' (D1, _) (.head _), off3' (D1, _) (List.mem_append_right _ (by k_mem)), off4' (D1, _) (List.mem_append_right _ (by k_mem)), fun hk => ?_⟩, ⟨off3' (D2, _) (List.mem_append_right _ (by k_mem)), off4' (D2, _) (List.mem_append_right _ (by k_mem)), fun hk => ?_⟩, ⟨off4' (D3, _) (List.mem_append_right _ (by k_mem)), fun hk => ?_⟩, fun hk => ?_, hfk⟩
              · obtain ⟨o, ho⟩ := hkm _ hk; exact hfw _ ho (D1, LCg.lst ys) (by k_mem) rfl
              · obtain ⟨o, ho⟩ := hkm _ hk; exact hfw _ ho (D2, LCg.lst zs) (by k_mem) rfl
              · obtain ⟨o, ho⟩ := hkm _ hk; exact off3' _ (List.mem_append_left _ ho) rfl
              · obtain ⟨o, ho⟩ := hkm _ hk
                have := hR2f _ ho
                exact off4' (D4, o) (List.mem_append_right _ (by k_mem)) rfl
          have hBKd : ∀ p ∈ BK, ∀ r ∈ ([(ca, o2), (L1 + 1, c1)] : Led), p.1 ≠ r.1 := by
            have hone : ∀ p ∈ BK, p.1 ≠ ca ∧ p.1 ≠ L1 + 1 := by
              intro p hp
              rw [← hBK] at hp
              rcases List.mem_cons.mp hp with rfl | hp
              · exact ⟨(off4' (ca, o2) (List.mem_append_right _ (by k_mem))).symm, (off4' (L1 + 1, c1) (List.mem_append_right _ (by k_mem))).symm⟩
              rcases List.mem_cons.mp hp with rfl | hp
              · exact ⟨(Nat.ne_of_lt (lH (ca, o2) (by k_mem))).symm, (Nat.ne_of_lt (lH (L1 + 1, c1) (by k_mem))).symm⟩
              rcases List.mem_cons.mp hp with rfl | hp
              · exact ⟨(off3' (ca, o2) (List.mem_append_right _ (by k_mem))).symm, (off3' (L1 + 1, c1) (List.mem_append_right _ (by k_mem))).symm⟩
              rcases List.mem_cons.mp hp with rfl | hp
              · exact ⟨(Nat.ne_of_lt lB.2.2.1).symm, (Nat.ne_of_lt lB.2.2.2.1).symm⟩
              rcases List.mem_cons.mp hp with rfl | hp
              · exact ⟨(off2' (ca, o2) (by k_mem)).symm, (off2' (L1 + 1, c1) (by k_mem)).symm⟩
              rcases List.mem_cons.mp hp with rfl | hp
              · exact ⟨hD1c.symm, (off1' (L1 + 1, c1) (by k_mem)).symm⟩
              rw [hR3] at hp
              rcases List.mem_append.mp hp with hp | hp
              · exact ⟨hT4 p hp (ca, o2) (by k_mem), hT4 p hp (L1 + 1, c1) (by k_mem)⟩
              rw [hR2] at hp
              rcases List.mem_append.mp hp with hp | hp
              · exact ⟨hfw p hp (ca, o2) (by k_mem), hfw p hp (L1 + 1, c1) (by k_mem)⟩
              · exact ⟨(hT p hp).1.symm, (hT p hp).2.2.symm⟩
            intro p hp r hr
            simp only [List.mem_cons, List.not_mem_nil, or_false] at hr
            rcases hr with rfl | rfl
            · exact (hone p hp).1
            · exact (hone p hp).2
          have hzsB : FrsAre BK zs lims := hzs.mono fun a x hx => by
            rw [← hBK]
            have := hR3R _ (hR2T _ hx)
            k_mem
          refine' con_pre (R := [(ca, o2), (L1 + 1, c1)]) (wfNew_con w D1 D2 ys.length zs.length ys zs ws lims BK hys (fun x hx => ⟨(hwb x hx).1, by have := (hwb x hx).2; (first | lia | omega)⟩) (by (first | lia | omega)) (by (first | lia | omega)) hzsB hlb (by rw [hll, hysl]) (by rw [← hBK]; simp [LCg.lst]) (by rw [← hBK]; simp [LCg.lst])) ?k1 ?k2 ?k3 ?k4 ?k5 ?kK ?kd ?ku ?kp hBKd ?_
          cell_call
          case kp =>
            intro p hp
            rw [← hBK] at hp
            rcases List.mem_append.mp hp with hp | hp
            · simp only [List.mem_cons] at hp
              rcases hp with rfl | rfl | rfl | rfl | rfl | rfl | hp <;> k_mem
            · simp only [List.mem_cons, List.not_mem_nil, or_false] at hp
              rcases hp with rfl | rfl <;> k_mem
          rintro r' post h' tk' ⟨q, P, U, rfl, rfl, hPB, hU, hUd, hWf⟩ F' N' fr'
          clear NA hBKd off4' off3' off2' off1' hT4 hfw hT
          have hwl3 : ws.length ≤ 3 := by (first | lia | omega)
          have hJ0 := Joint.start (lims := lims) hU hUd hwb (by rw [hll, hysl])
          have hDj0 : Dj [ca, L1 + 1] P BK := ⟨fun p hp x hx => by
            simp only [List.mem_cons, List.not_mem_nil, or_false] at hx
            rcases hx with e | e <;> rw [e]
            · exact fr' p (List.mem_append_left _ hp) (ca, o2) (by k_mem)
            · exact fr' p (List.mem_append_left _ hp) (L1 + 1, c1) (by k_mem), fun p hp x hx => by
            simp only [List.mem_cons, List.not_mem_nil, or_false] at hx
            rcases hx with e | e <;> rw [e]
            · exact fr' p (List.mem_append_right _ hp) (ca, o2) (by k_mem)
            · exact fr' p (List.mem_append_right _ hp) (L1 + 1, c1) (by k_mem), hPB⟩
          replace N' : News g1 L1 h' ((ca, o2) :: (L1 + 1, c1) :: (P ++ BK)) := kst_newsOf N' (by k_extra "sub")
          clear fr' hPB
          generalize hA0 : (WfA.mk _ _ _ _) = A0 at hWf hJ0
          generalize hB0 : (BookA.mk _ _ _ _ _) = B0 at hbook hJ0
          clear hA0 hB0 hBK hzsB hE N5 F5 hUd
          k_steps
          unfold Hold
          refine' con_pre (R := (L1 + 1, c1) :: (P ++ BK)) (drawC w ca o2 10 _ ho2 (by decide) (by decide)) ?k1 ?k2 ?k3 ?k4 ?k5 ?kK ?kd ?ku ?kp (Dj.cell hDj0 o2 [(L1 + 1, c1)] rfl (by simp; exact hcl)) ?_
          cell_call
          (case kp => lcg_sub)
          rintro r' post h' tk' ⟨dn, tn, o3, rfl, hn1, hn2, rfl, ho3⟩ F' N' fr'
          clear fr'
          (try simp only [List.cons_append, List.nil_append] at N')
          k_steps
          unfold Hold
          intro It hIf
          have hcI : NeA ca It := Nat.ne_of_lt (hIf (ca, o3) (by k_mem))
          have hcI2 : NeA (L1 + 1) It := Nat.ne_of_lt (hIf (L1 + 1, c1) (by k_mem))
          have hDj1 : Dj [ca, L1 + 1, It] P BK := ⟨fun p hp x hx => by
            simp only [List.mem_cons, List.not_mem_nil, or_false] at hx
            rcases hx with e | e | e <;> rw [e]
            · exact hDj0.1 p hp _ (by simp)
            · exact hDj0.1 p hp _ (by simp)
            · exact Nat.ne_of_lt (hIf p (.tail _ (.tail _ (List.mem_append_left _ hp)))), fun p hp x hx => by
            simp only [List.mem_cons, List.not_mem_nil, or_false] at hx
            rcases hx with e | e | e <;> rw [e]
            · exact hDj0.2.1 p hp _ (by simp)
            · exact hDj0.2.1 p hp _ (by simp)
            · exact Nat.ne_of_lt (hIf p (.tail _ (.tail _ (List.mem_append_right _ hp)))), hDj0.2.2⟩
          refine turns_ind (JInv w ca dB D1 (L1 + 1) q c1 U ws [ca, L1 + 1, It]) ?turn5 ?fin5 _ 0 _ _ (Nat.zero_add _) ⟨o3, P, BK, A0, B0, rfl, ho3, hWf, hbook, hDj1, hJ0, ⟨rfl, rfl, rfl, trivial⟩⟩
          case turn5 =>
            intro i it v m news h tk hit hitv hInv F2 oI hI2 N2
            obtain ⟨hi, tv, rfl⟩ := range_item hit hitv
            have hi16 : i ≤ 15 := by (first | lia | omega)
            obtain ⟨o, W, Bk, A, B, hnw, ho, hA, hB, hDj, hJ, hM⟩ := hInv
            rw [hnw] at N2
            clear hnw news hit hitv
            replace F2 := fr_as hM F2
            dsimp only [kstB] at F2
            have hlenA : A.rows.length = ws.length := by rw [← hJ.n5]
            have hlenB : B.rows.length = ws.length := by rw [hJ.n1, hlenA]
            obtain ⟨hzA, hzB⟩ := hJ.nz (by (first | lia | omega))
            obtain ⟨wvs, wep, hwm, hwvl⟩ := hB.weights
            replace hwm : (D1, listOf wvs.toArray wep) ∈ W ++ Bk := List.mem_append_right _ hwm
            have hcx : ∀ x ∈ [L1 + 1, It], ca ≠ x := by simp; exact ⟨hcl, hcI⟩
            have hfrok := hJ.here.ok (by (first | lia | omega))
            obtain ⟨qd, T9, t91, t92, u9, a91, a92, a93, a94, hq1, hq2⟩ : ∃ (qd : Nat) (T : WfT) (t1 t6 : Nat) (unit : Int) (sa ra fa la : Nat), (q, instObj 217 qd) ∈ W ++ Bk ∧ (qd, wfD T t1 t6 unit sa ra fa la A.time) ∈ W ++ Bk := by
              obtain ⟨I, hI⟩ := hA
              exact ⟨I.qd, I.T, I.t1, I.t6, I.unit, I.sa, I.ra, I.fa, I.la, List.mem_append_left _ hI.m1, List.mem_append_left _ hI.m2⟩
            k_steps
            unfold Hold
            refine' con_pre (R := (L1 + 1, c1) :: (It, oI) :: (W ++ Bk)) (drawC w ca o 3 _ ho (by decide) (by decide)) ?k1 ?k2 ?k3 ?k4 ?k5 ?kK ?kd ?ku ?kp (Dj.cell hDj o [(L1 + 1, c1), (It, oI)] rfl hcx) ?_
            cell_call
            (case kp => lcg_sub)
            rintro r' post h' tk' ⟨da, ta, oa, rfl, ha1, ha2, rfl, hoa⟩ F' N' fr'
            clear fr'
            (try simp only [List.cons_append, List.nil_append] at N')
            k_steps
            · unfold Hold
              refine' con_pre (R := (L1 + 1, c1) :: (It, oI) :: (W ++ Bk)) (drawC w ca oa (wvs.length : Int) _ hoa (by (first | lia | omega)) (by (first | lia | omega))) ?k1 ?k2 ?k3 ?k4 ?k5 ?kK ?kd ?ku ?kp (Dj.cell hDj oa [(L1 + 1, c1), (It, oI)] rfl hcx) ?_
              cell_call
              (case kp => lcg_sub)
              rintro r' post h' tk' ⟨db, tb, ob, rfl, hb1, hb2, rfl, hob⟩ F' N' fr'
              clear fr'
              (try simp only [List.cons_append, List.nil_append] at N')
              obtain ⟨k, rfl⟩ : ∃ k : Nat, db = k := ⟨db.toNat, by (first | lia | omega)⟩
              have hk : k < A.rows.length := by (first | lia | omega)
              k_steps
              unfold Hold
              refine' con_pre (R := (L1 + 1, c1) :: (It, oI) :: (W ++ Bk)) (drawC w ca ob 9 _ hob (by decide) (by decide)) ?k1 ?k2 ?k3 ?k4 ?k5 ?kK ?kd ?ku ?kp (Dj.cell hDj ob [(L1 + 1, c1), (It, oI)] rfl hcx) ?_
              cell_call
              (case kp => lcg_sub)
              rintro r' post h' tk' ⟨dc, tc, oc, rfl, hc1, hc2, rfl, hoc⟩ F' N' fr'
              clear fr'
              (try simp only [List.cons_append, List.nil_append] at N')
              k_steps
              unfold Hold
              obtain ⟨a, ha⟩ := getSome (xs := A.rows) rfl hk
              obtain ⟨b, hb⟩ := getSome hJ.n1 hk
              obtain ⟨lim, hlim⟩ := getSome hJ.n6 hk
              have hroom := hJ.room ha hb hlim (1 + dc)
              have hJr := hJ.reset
              have hJa := fun x tx => hJr.added (k := k) (by rw [reset_rows]; exact hk) (m := 1 + dc) (by (first | lia | omega)) x tx
              refine' con_pre (R := [(ca, oc), (L1 + 1, c1), (It, oI)] ++ Bk) (wfPutA w q A k (1 + dc) _ _ _ a W ha (by (first | lia | omega)) hzA (by (first | lia | omega)) (by (first | lia | omega)) hA) ?k1 ?k2 ?k3 ?k4 ?k5 ?kK ?kd ?ku ?kp (hDj.w [(ca, oc), (L1 + 1, c1), (It, oI)] rfl) ?_
              cell_call
              case kp =>
                k_extra "sub"
              intro r' W' h' tk' hP F' N' frW
              have hDj2 := hDj.setW [(ca, oc), (L1 + 1, c1), (It, oI)] rfl frW
              replace N' := kst_newsOf (l' := (ca, oc) :: (L1 + 1, c1) :: (It, oI) :: (W' ++ Bk)) N' (by
                k_extra "sub")
              clear frW
              rcases hP with ⟨hfit, rfl, hA'⟩ | ⟨hfit, rfl, hA'⟩
              all_goals (
                k_steps
                unfold Hold
                refine' con_pre (R := [(ca, oc), (L1 + 1, c1), (It, oI)] ++ W') (bPutA w dB D1 B k (1 + dc) _ _ _ b lim Bk hb hlim (by (first | lia | omega)) hzB hfrok (hJ.endOk (by (first | lia | omega)) hk) (by (first | lia | omega)) (hJ.wOk hk) hB) ?k1 ?k2 ?k3 ?k4 ?k5 ?kK ?kd ?ku ?kp (hDj2.b [(ca, oc), (L1 + 1, c1), (It, oI)] rfl) ?_
                cell_call
                case kp =>
                  k_extra "sub"
                intro r' B' h' tk' hP2 F' N' frB
                have hDj3 := hDj2.setB [(ca, oc), (L1 + 1, c1), (It, oI)] rfl frB
                replace N' := kst_newsOf (l' := (It, oI) :: (ca, oc) :: (L1 + 1, c1) :: (W' ++ B')) N' (by
                  k_extra "sub")
                clear frB
                rcases hP2 with ⟨hfit2, rfl, hB'⟩ | ⟨hfit2, rfl, hB'⟩
                all_goals first
                  | exact absurd (hroom.mp hfit) hfit2
                  | exact absurd (hroom.mpr hfit2) hfit
                  | skip)
              · k_steps
                cell_end 7 ((ca, oc) :: (L1 + 1, c1) :: (W' ++ B')) (dj_off hcI hcI2 hDj3)
                exact ⟨trivial, oc, W', B', _, _, rfl, hoc, hA', hB', hDj3, hJa _ _, ⟨rfl, rfl, rfl, trivial⟩⟩
              · k_steps
                cell_end 7 ((ca, oc) :: (L1 + 1, c1) :: (W' ++ B')) (dj_off hcI hcI2 hDj3)
                exact ⟨trivial, oc, W', B', _, _, rfl, hoc, hA', hB', hDj3, hJr.up, ⟨rfl, rfl, rfl, trivial⟩⟩
            · unfold Hold
              refine' con_pre (R := [(ca, oa), (L1 + 1, c1), (It, oI)] ++ Bk) (wfTakeA w q A W (by (first | lia | omega)) hzA hA) ?k1 ?k2 ?k3 ?k4 ?k5 ?kK ?kd ?ku ?kp (hDj.w [(ca, oa), (L1 + 1, c1), (It, oI)] rfl) ?_
              cell_call
              case kp =>
                k_extra "sub"
              intro r' W' h' tk' hP F' N' frW
              have hDj2 := hDj.setW [(ca, oa), (L1 + 1, c1), (It, oI)] rfl frW
              replace N' := kst_newsOf (l' := (ca, oa) :: (L1 + 1, c1) :: (It, oI) :: (W' ++ Bk)) N' (by
                k_extra "sub")
              clear frW
              rcases hP with ⟨hall, rfl, hA'⟩ | ⟨k, a, it, its, y, tk0, ts, P, ha, hie, hbest, rfl, rfl, hA'⟩
              · k_steps
                unfold Hold
                refine' con_pre (R := [(ca, oa), (L1 + 1, c1), (It, oI)] ++ W') (bNextA w dB D1 B Bk (by (first | lia | omega)) hzB hB U hJ.hU A.headFin (hJ.heads (by (first | lia | omega))) hfrok) ?k1 ?k2 ?k3 ?k4 ?k5 ?kK ?kd ?ku ?kp (hDj2.b [(ca, oa), (L1 + 1, c1), (It, oI)] rfl) ?_
                cell_call
                case kp =>
                  k_extra "sub"
                intro r' B' h' tk' hP2 F' N' frB
                have hDj3 := hDj2.setB [(ca, oa), (L1 + 1, c1), (It, oI)] rfl frB
                replace N' := kst_newsOf (l' := (It, oI) :: (ca, oa) :: (L1 + 1, c1) :: (W' ++ B')) N' (by
                  k_extra "sub")
                clear frB
                rcases hP2 with ⟨hallB, rfl, hB'⟩ | ⟨k2, bit, bits, y2, tk2', ts2, P2, hbb, hbest2, rfl, rfl, hB'⟩
                · k_steps
                  cell_end 7 ((ca, oa) :: (L1 + 1, c1) :: (W' ++ B')) (dj_off hcI hcI2 hDj3)
                  exact ⟨trivial, oa, W', B', A, B, rfl, hoa, hA', hB', hDj3, hJ.up, ⟨rfl, rfl, rfl, trivial⟩⟩
                · exact absurd (hJ.noA hall _ (List.mem_of_getElem? hbb)) (by simp)
              · k_steps
                unfold Hold
                refine' con_pre (R := [(ca, oa), (L1 + 1, c1), (It, oI)] ++ ((y, tupOf #[.int (k : Int) tk0, .int it.size ts, it.th] 0) :: P)) (bNextA w dB D1 B Bk (by (first | lia | omega)) hzB hB U hJ.hU A.headFin (hJ.heads (by (first | lia | omega))) hfrok) ?k1 ?k2 ?k3 ?k4 ?k5 ?kK ?kd ?ku ?kp (hDj2.b [(ca, oa), (L1 + 1, c1), (It, oI)] rfl) ?_
                cell_call
                case kp =>
                  k_extra "sub"
                intro r' B' h' tk' hP2 F' N' frB
                have hDj3 := hDj2.setB [(ca, oa), (L1 + 1, c1), (It, oI)] rfl frB
                clear frB
                rcases hP2 with ⟨hallB, rfl, hB'⟩ | ⟨k2, bit, bits, y2, tk2', ts2, P2, hbb, hbest2, rfl, rfl, hB'⟩
                · exfalso
                  obtain ⟨b, hb⟩ := getSome hJ.n1 (List.getElem?_eq_some_iff.mp ha).1
                  have h1 := (hJ.rows k a b ha hb).len
                  rw [hallB b (List.mem_of_getElem? hb), hie] at h1
                  simp at h1
                · have hk2 := hJ.same ha hie hbest hbb hbest2
                  subst hk2
                  obtain ⟨hJt, e1, e2, x3, t3, e3⟩ := hJ.taken ha hie hbb
                  have hDj4 : Dj [ca, L1 + 1, It] P P2 := ⟨fun p hp => hDj3.1 p (.tail _ hp), fun p hp => hDj3.2.1 p (.tail _ hp), fun p hp r hr => hDj3.2.2 p (.tail _ hp) r (.tail _ hr)⟩
                  rw [← e2, e3, ← e1] at N'
                  replace N' := kst_newsOf (l' := (y, tupOf #[.int (k2 : Int) tk0, .int it.size ts, .int x3 t3] 0) :: (y2, tupOf #[.int (k2 : Int) tk2', .int it.size ts2, .int x3 t3] 0) :: (It, oI) :: (ca, oa) :: (L1 + 1, c1) :: (P ++ P2)) N' (by
                    k_extra "sub")
                  k_steps
                  · cell_end 7 ((ca, oa) :: (L1 + 1, c1) :: (P ++ P2)) (dj_off hcI hcI2 hDj4)
                    exact ⟨trivial, oa, P, P2, _, _, rfl, hoa, hA', hB', hDj4, hJt.up, ⟨rfl, rfl, rfl, trivial⟩⟩
                  · exact absurd (show (k2 : Int) = k2 ∧ it.size = it.size ∧ x3 = x3 from ⟨rfl, rfl, rfl⟩) (by assumption)
          case fin5 =>
            intro m news hInv h tk F2 N2
            obtain ⟨o, W, Bk, A, B, hnw, ho, hA, hB, hDj, hJ, hM⟩ := hInv
            rw [hnw] at N2
            replace F2 := fr_as hM F2
            dsimp only [kstB] at F2
            obtain ⟨pp, hJ, hl16⟩ : ∃ pp, Joint U ws pp A B ∧ pp ≤ 16 := ⟨_, hJ, by simp; (first | lia | omega)⟩
            k_steps
            unfold Hold
            refine While_inv2 (fun n m nx => ∃ (o : Obj) (W Bk : Led) (A : WfA) (B : BookA), nx = (ca, o) :: (L1 + 1, c1) :: (W ++ Bk) ∧ CellOk o ∧ WfAt q A W ∧ BookAt w dB D1 B Bk ∧ Dj [ca, L1 + 1] W Bk ∧ Joint U ws pp A B ∧ n = nItems A ∧ AllM m [(Str.ofString "weights", .ref D1), (Str.ofString "book", .ref dB), (Str.ofString "queues", .ref q)])
              (by k_asm) (by k_asm) ⟨o, W, Bk, A, B, rfl, ho, hA, hB, hDj.sub (by simp), hJ, rfl, ⟨rfl, rfl, rfl, trivial⟩⟩ ?_
            clear F2 N2 hA hB hDj hJ hM ho hnw
            rintro n m₁ news₁ h₁ tk₁ F₁ N₁ ⟨o, W, Bk, A, B, hnw, ho, hA, hB, hDj, hJ, rfl, hM⟩
            rw [hnw] at N₁
            replace F₁ := fr_as hM F₁
            dsimp only [kstB] at F₁
            have hlenA : A.rows.length = ws.length := by rw [← hJ.n5]
            have hlenB : B.rows.length = ws.length := by rw [hJ.n1, hlenA]
            obtain ⟨hzA, hzB⟩ := hJ.nz (by (first | lia | omega))
            have hfrok := hJ.here.ok (by (first | lia | omega))
            obtain ⟨qd, T9, t91, t92, u9, a91, a92, a93, a94, hq1, hq2⟩ : ∃ (qd : Nat) (T : WfT) (t1 t6 : Nat) (unit : Int) (sa ra fa la : Nat), (q, instObj 217 qd) ∈ W ++ Bk ∧ (qd, wfD T t1 t6 unit sa ra fa la A.time) ∈ W ++ Bk := by
              obtain ⟨I, hI⟩ := hA
              exact ⟨I.qd, I.T, I.t1, I.t6, I.unit, I.sa, I.ra, I.fa, I.la, List.mem_append_left _ hI.m1, List.mem_append_left _ hI.m2⟩
            obtain ⟨pre, hpre, hC⟩ := waitA w q A W (by (first | lia | omega)) hzA hA
            k_steps
            unfold Hold
            refine' con_ro hC ?k1 ?k2 ?k3 ?k4 ?k5 ?kK ?kp ?kd ?ku ?_
            cell_call
            case kp =>
              intro p hp
              exact .tail _ (.tail _ (List.mem_append_left _ (hpre p hp)))
            intro r' h' tk' hR' F' N'
            obtain ⟨tw, rfl⟩ := hR'
            k_steps
            · unfold Hold
              refine' con_pre (R := [(ca, o), (L1 + 1, c1)] ++ Bk) (wfTakeA w q A W (by (first | lia | omega)) hzA hA) ?k1 ?k2 ?k3 ?k4 ?k5 ?kK ?kd ?ku ?kp (hDj.w [(ca, o), (L1 + 1, c1)] rfl) ?_
              cell_call
              case kp =>
                k_extra "sub"
              intro r' W' h' tk' hP F' N' frW
              have hDj2 := hDj.setW [(ca, o), (L1 + 1, c1)] rfl frW
              replace N' := kst_newsOf (l' := (ca, o) :: (L1 + 1, c1) :: (W' ++ Bk)) N' (by
                k_extra "sub")
              clear frW
              rcases hP with ⟨hall, rfl, hA'⟩ | ⟨k, a, it, its, y, tk0, ts, P, ha, hie, hbest, rfl, rfl, hA'⟩
              · exfalso
                have := nItems_none hall
                (first | lia | omega)
              · k_steps
                unfold Hold
                refine' con_pre (R := [(ca, o), (L1 + 1, c1)] ++ ((y, tupOf #[.int (k : Int) tk0, .int it.size ts, it.th] 0) :: P)) (bNextA w dB D1 B Bk (by (first | lia | omega)) hzB hB U hJ.hU A.headFin (hJ.heads (by (first | lia | omega))) hfrok) ?k1 ?k2 ?k3 ?k4 ?k5 ?kK ?kd ?ku ?kp (hDj2.b [(ca, o), (L1 + 1, c1)] rfl) ?_
                cell_call
                case kp =>
                  k_extra "sub"
                intro r' B' h' tk' hP2 F' N' frB
                have hDj3 := hDj2.setB [(ca, o), (L1 + 1, c1)] rfl frB
                clear frB
                rcases hP2 with ⟨hallB, rfl, hB'⟩ | ⟨k2, bit, bits, y2, tk2', ts2, P2, hbb, hbest2, rfl, rfl, hB'⟩
                · exfalso
                  obtain ⟨b, hb⟩ := getSome hJ.n1 (List.getElem?_eq_some_iff.mp ha).1
                  have h1 := (hJ.rows k a b ha hb).len
                  rw [hallB b (List.mem_of_getElem? hb), hie] at h1
                  simp at h1
                · have hk2 := hJ.same ha hie hbest hbb hbest2
                  subst hk2
                  obtain ⟨hJt, e1, e2, x3, t3, e3⟩ := hJ.taken ha hie hbb
                  have hcnt := nItems_taken ha hie
                  have hDj4 : Dj [ca, L1 + 1] P P2 := ⟨fun p hp => hDj3.1 p (.tail _ hp), fun p hp => hDj3.2.1 p (.tail _ hp), fun p hp r hr => hDj3.2.2 p (.tail _ hp) r (.tail _ hr)⟩
                  rw [← e2, e3, ← e1] at N'
                  replace N' := kst_newsOf (l' := (y, tupOf #[.int (k2 : Int) tk0, .int it.size ts, .int x3 t3] 0) :: (y2, tupOf #[.int (k2 : Int) tk2', .int it.size ts2, .int x3 t3] 0) :: (ca, o) :: (L1 + 1, c1) :: (P ++ P2)) N' (by
                    intro p hp
                    simp only [List.mem_append, List.mem_cons, List.not_mem_nil, or_false, List.cons_append] at hp ⊢
                    rcases hp with h | h | h | h | h | h <;> simp [h, e3])
                  k_steps
                  · cell_end 8 ((ca, o) :: (L1 + 1, c1) :: (P ++ P2)) (nItems (A.taken k2 it))
                    · (first | lia | omega)
                    · exact ⟨o, P, P2, _, _, rfl, ho, hA', hB', hDj4, hJt, rfl, ⟨rfl, rfl, rfl, trivial⟩⟩
                  · exact absurd (show (k2 : Int) = k2 ∧ it.size = it.size ∧ x3 = x3 from ⟨rfl, rfl, rfl⟩) (by assumption)
            · unfold Hold
              have hall := nItems_zero (A := A) (by (first | lia | omega))
              refine' con_pre (R := [(ca, o), (L1 + 1, c1)] ++ W) (bNextA w dB D1 B Bk (by (first | lia | omega)) hzB hB U hJ.hU A.headFin (hJ.heads (by (first | lia | omega))) hfrok) ?k1 ?k2 ?k3 ?k4 ?k5 ?kK ?kd ?ku ?kp (hDj.b [(ca, o), (L1 + 1, c1)] rfl) ?_
              cell_call
              case kp =>
                k_extra "sub"
              intro r' B' h' tk' hP2 F' N' frB
              clear frB
              rcases hP2 with ⟨hallB, rfl, hB'⟩ | ⟨k2, bit, bits, y2, tk2', ts2, P2, hbb, hbest2, rfl, rfl, hB'⟩
              · replace N' := kst_newsOf (l' := [(ca, o)]) N' (by
                  intro p hp
                  rw [List.mem_singleton.mp hp]
                  exact List.mem_append_right _ (.head _))
                k_steps
                exact con_end hret hin1 (by assumption) (by assumption) (by assumption) (by assumption) [(ca, o)] (fun p hp => hp) ⟨rfl, o, rfl, ho⟩
              · exact absurd (hJ.noA hall _ (List.mem_of_getElem? hbb)) (by simp)
end
end
-- Shp
example : True := by
  w_top off
  trivial
section
set_option genInjectivity false in
structure BkT where
  (h1 h2 h3 h4 h5 : Int) (k1 k2 k3 k4 k5 : Nat)
  deriving Inhabited
noncomputable abbrev bkD (T : BkT) (t1 t2 t3 t4 : Nat) (rate burst grains time : Int) : Obj := dictOf [⟨T.h1, .str (Str.ofString "rate") T.k1, .int rate t1⟩, ⟨T.h2, .str (Str.ofString "burst") T.k2, .int burst t2⟩, ⟨T.h3, .str (Str.ofString "grains") T.k3, .int grains t3⟩, ⟨T.h4, .str (Str.ofString "time") T.k4, .int time t4⟩] 4
noncomputable abbrev shD (T : BkT) (b : Addr) : Obj := dictOf [⟨T.h5, .str (Str.ofString "bucket") T.k5, .ref b⟩] 1
section
open EpsOn EpsNf
theorem bkNew_con (w : World) (rate burst : Int) (t1 t2 : VTok) (h1 : 0 ≤ rate) (h2 : 1 ≤ burst) :
   Con w 287 [.int rate t1, .int burst t2] 3 300 []
     (fun v post => ∃ (b bd : Nat) (T : BkT) (u3 u4 : Nat), v = .ref b ∧ post = [(b, instObj 287 bd), (bd, bkD T t1 t2 u3 u4 rate burst (burst * 100) 0)]) := by
  revert w rate burst t1 t2 h1 h2
  intro w rate burst t1 t2 h1 h2
  refine con_cx ?_
  k_extra "cx"
  intro B F X N T hk hd hu hret
  refine' call_clsK ?k1 ?k2 ?k3 ?k4 ?k5 ?k6 ?_
  (case k1 => k_asm); (case k2 => k_asm); (case k3 => k_asm); (case k4 => k_is); (case k5 => k_is); (case k6 => k_is)
  intro x' d' h' F' N' l1 l2 l3
  (try k_lt l1); (try k_lt2 l2); (try k_sweep)
  k_dflt (cell_ask [(Str.ofString "self", .ref x'), (Str.ofString "rate", .int rate t1), (Str.ofString "burst", .int burst t2)])
  k_steps
  all_goals exact con_end hret (con_in l3 (by assumption)) (by assumption) (by assumption) (by assumption) (by assumption) _ (by lcg_sub) ⟨x', d', ⟨_, _, _, _, 0, _, _, _, _, 0⟩, _, _, rfl, rfl⟩
end
section
open EpsOn EpsNf
theorem shNew_con (w : World) (rate burst : Int) (t1 t2 : VTok) (h1 : 0 ≤ rate) (h2 : 1 ≤ burst) :
   Con w 329 [.int rate t1, .int burst t2] 6 400 []
     (fun v post => ∃ (x xd b bd : Nat) (T : BkT) (u1 u2 u3 u4 : Nat), v = .ref x ∧ post = [(x, instObj 329 xd), (xd, shD T b), (b, instObj 287 bd), (bd, bkD T u1 u2 u3 u4 rate burst (burst * 100) 0)] ∧ x ≠ b ∧ xd ≠ bd) := by
  revert w rate burst t1 t2 h1 h2
  intro w rate burst t1 t2 h1 h2
  refine con_cx ?_
  k_extra "cx"
  intro B F X N T hk hd hu hret
  refine' call_clsK ?k1 ?k2 ?k3 ?k4 ?k5 ?k6 ?_
  (case k1 => k_asm); (case k2 => k_asm); (case k3 => k_asm); (case k4 => k_is); (case k5 => k_is); (case k6 => k_is)
  intro x' d' h' F' N' l1 l2 l3
  (try k_lt l1); (try k_lt2 l2); (try k_sweep)
  k_dflt (cell_ask [(Str.ofString "self", .ref x'), (Str.ofString "rate", .int rate t1), (Str.ofString "burst", .int burst t2)])
  k_with "con" => (refine hold ?_)
  k_steps
  unfold Hold
  refine' con_upd (bkNew_con w rate burst t1 t2 h1 h2) ?k1 ?k2 ?k3 ?k4 ?k5 ?kK ?kp ?ko ?kd ?ku ?_
  cell_call
  (case kp => exact Pick.nil)
  (case ko => exact fun _ h => (nomatch h))
  intro r' post h' tk' hP' F' N' fr'
  obtain ⟨b, bd, T, u3, u4, rfl, rfl⟩ := hP'
  have q1 : NeA b d' := ((fr' (b, _) (.head _)).resolve_left (fun h => nomatch h) (d', _) (.tail _ (.head _))).symm
  have q3 : x' ≠ b := (fr' (b, _) (.head _)).resolve_left (fun h => nomatch h) (x', _) (.head _)
  have q2 : NeA bd d' := ((fr' (bd, _) (.tail _ (.head _))).resolve_left (fun h => nomatch h) (d', _) (.tail _ (.head _))).symm
  clear fr'
  (try simp only [List.cons_append, List.nil_append] at N')
  k_steps
  exact con_end hret (con_in l3 (by assumption)) (by assumption) (by assumption) (by assumption) (by assumption) _ (by lcg_sub) ⟨x', d', b, bd, { T with h5 := _, k5 := _ }, _, _, _, _, rfl, rfl, q3, q2.symm⟩
end
theorem asked_con (w : World) (x xd b bd : Nat) (T : BkT) (u1 u2 u3 u4 : Nat) (rate burst grains time size : Int) (ts : VTok) :
   Con w 312 [.ref x, .int size ts] 2 100 [(x, instObj 329 xd), (xd, shD T b), (b, instObj 287 bd), (bd, bkD T u1 u2 u3 u4 rate burst grains time)]
     (fun v post => (∃ t, v = .int (min size burst) t) ∧ post = [(x, instObj 329 xd), (xd, shD T b), (b, instObj 287 bd), (bd, bkD T u1 u2 u3 u4 rate burst grains time)]) := by
  refine con_cx ?_
  k_extra "cx"
  intro B F X N TT hk hd hu hret
  refine wpAny_call ?_
  k_dflt (cell_ask [(Str.ofString "self", .ref x), (Str.ofString "size", .int size ts)])
  k_steps
  all_goals exact con_end hret (by assumption) (by assumption) (by assumption) (by assumption) (by assumption) _ (fun p hp => hp) ⟨⟨_, rfl⟩, rfl⟩
noncomputable def fillG (rate burst grains time now : Int) : Int := if now ≤ time then grains else min (grains + rate * (now - time)) (burst * 100)
noncomputable def fillT (time now : Int) : Int := if now ≤ time then time else now
section
open EpsOn EpsNf
theorem fill_con (w : World) (b bd : Nat) (T : BkT) (u1 u2 u3 u4 : Nat) (rate burst grains time now : Int) (tn : VTok) (h1 : 0 ≤ rate ∧ rate ≤ 1000) :
   Con w 242 [.ref b, .int now tn] 2 100 [(b, instObj 287 bd), (bd, bkD T u1 u2 u3 u4 rate burst grains time)]
     (fun v post => ∃ (u3' u4' : Nat), post = [(b, instObj 287 bd), (bd, bkD T u1 u2 u3' u4' rate burst (fillG rate burst grains time now) (fillT time now))]) := by
  revert w b bd T u1 u2 u3 u4 rate burst grains time now tn h1
  intro w b bd T u1 u2 u3 u4 rate burst grains time now tn h1
  refine con_cx ?_
  k_extra "cx"
  intro B F X N TT hk hd hu hret
  have n1 := led_ne N (a := b) (b := bd) (by k_mem) (by k_mem)
  refine wpAny_call ?_
  k_dflt (cell_ask [(Str.ofString "self", .ref b), (Str.ofString "now", .int now tn)])
  k_steps
  · have hc : now ≤ time := by omega
    simp only [fillG, fillT, if_pos hc] at hret
    exact con_end hret (by assumption) (by assumption) (by assumption) (by assumption) (by assumption) _ (fun p hp => hp) ⟨_, _, rfl⟩
  · have hc : ¬ now ≤ time := by omega
    simp only [fillG, fillT, if_neg hc] at hret
    exact con_end hret (by assumption) (by assumption) (by assumption) (by assumption) (by assumption) _ (fun p hp => hp) ⟨_, _, rfl⟩
end
theorem has_con (w : World) (b bd : Nat) (T : BkT) (u1 u2 u3 u4 : Nat) (rate burst grains time size now : Int) (ts tn : VTok) (h1 : 0 ≤ rate ∧ rate ≤ 1000) :
   Con w 256 [.ref b, .int size ts, .int now tn] 3 200 [(b, instObj 287 bd), (bd, bkD T u1 u2 u3 u4 rate burst grains time)]
     (fun v post => v = .bool (decide (size * 100 ≤ fillG rate burst grains time now)) ∧ ∃ (u3' u4' : Nat), post = [(b, instObj 287 bd), (bd, bkD T u1 u2 u3' u4' rate burst (fillG rate burst grains time now) (fillT time now))]) := by
  refine con_cx ?_
  k_extra "cx"
  intro B F X N TT hk hd hu hret
  refine wpAny_call ?_
  k_dflt (cell_ask [(Str.ofString "self", .ref b), (Str.ofString "size", .int size ts), (Str.ofString "now", .int now tn)])
  k_with "con" => (refine hold ?_)
  k_steps
  unfold Hold
  refine' con_upd (fill_con w b bd T u1 u2 u3 u4 rate burst grains time now tn h1) ?k1 ?k2 ?k3 ?k4 ?k5 ?kK ?kp ?ko ?kd ?ku ?_
  cell_call
  (case kp => lcg_src)
  (case ko => exact fun _ _ _ h => (nomatch h))
  intro r' post h' tk' hP' F' N' fr'
  obtain ⟨u3', u4', rfl⟩ := hP'
  clear fr'
  (try simp only [List.cons_append, List.nil_append] at N')
  k_steps
  all_goals exact con_end hret (by assumption) (by assumption) (by assumption) (by assumption) (by assumption) _ (fun p hp => hp) ⟨rfl, _, _, rfl⟩
theorem spend_con (w : World) (b bd : Nat) (T : BkT) (u1 u2 u3 u4 : Nat) (rate burst grains time size : Int) (ts : VTok) :
   Con w 263 [.ref b, .int size ts] 2 100 [(b, instObj 287 bd), (bd, bkD T u1 u2 u3 u4 rate burst grains time)]
     (fun v post => ∃ (u3' : Nat), post = [(b, instObj 287 bd), (bd, bkD T u1 u2 u3' u4 rate burst (grains - size * 100) time)]) := by
  refine con_cx ?_
  k_extra "cx"
  intro B F X N TT hk hd hu hret
  have n1 := led_ne N (a := b) (b := bd) (by k_mem) (by k_mem)
  refine wpAny_call ?_
  k_dflt (cell_ask [(Str.ofString "self", .ref b), (Str.ofString "size", .int size ts)])
  k_steps
  all_goals exact con_end hret (by assumption) (by assumption) (by assumption) (by assumption) (by assumption) _ (fun p hp => hp) ⟨_, rfl⟩
noncomputable def sentOk (rate burst grains time size now : Int) : Prop := min size burst * 100 ≤ fillG rate burst grains time now
section
open EpsOn EpsNf
theorem sent_con (w : World) (x xd b bd : Nat) (T : BkT) (u1 u2 u3 u4 : Nat) (rate burst grains time size now : Int) (ts tn : VTok) (h1 : 0 ≤ rate ∧ rate ≤ 1000) (hxb : x ≠ b) (hxd : xd ≠ bd) :
   Con w 326 [.ref x, .int size ts, .int now tn] 5 300 [(x, instObj 329 xd), (xd, shD T b), (b, instObj 287 bd), (bd, bkD T u1 u2 u3 u4 rate burst grains time)]
     (fun v post => (sentOk rate burst grains time size now ∧ v = .bool true ∧ ∃ (u3' u4' : Nat), post = [(x, instObj 329 xd), (xd, shD T b), (b, instObj 287 bd), (bd, bkD T u1 u2 u3' u4' rate burst (fillG rate burst grains time now - size * 100) (fillT time now))]) ∨
       (¬ sentOk rate burst grains time size now ∧ v = .bool false ∧ ∃ (u3' u4' : Nat), post = [(x, instObj 329 xd), (xd, shD T b), (b, instObj 287 bd), (bd, bkD T u1 u2 u3' u4' rate burst (fillG rate burst grains time now) (fillT time now))])) := by
  revert w x xd b bd T u1 u2 u3 u4 rate burst grains time size now ts tn h1 hxb hxd
  intro w x xd b bd T u1 u2 u3 u4 rate burst grains time size now ts tn h1 hxb hxd
  refine con_cx ?_
  k_extra "cx"
  intro B F X N TT hk hd hu hret
  have n1 := led_ne N (a := b) (b := bd) (by k_mem) (by k_mem)
  have n2 := led_ne N (a := x) (b := xd) (by k_mem) (by k_mem)
  have n3 := led_ne N (a := x) (b := bd) (by k_mem) (by k_mem)
  have n4 := led_ne N (a := b) (b := xd) (by k_mem) (by k_mem)
  refine wpAny_call ?_
  k_dflt (cell_ask [(Str.ofString "self", .ref x), (Str.ofString "size", .int size ts), (Str.ofString "now", .int now tn)])
  k_with "con" => (refine hold ?_)
  k_steps
  unfold Hold
  refine' con_ro (asked_con w x xd b bd T u1 u2 u3 u4 rate burst grains time size ts) ?k1 ?k2 ?k3 ?k4 ?k5 ?kK ?kp ?kd ?ku ?_
  cell_call
  (case kp => lcg_sub)
  intro r' h' tk' hR' F' N'
  obtain ⟨t, rfl⟩ := hR'
  k_steps
  unfold Hold
  refine' con_upd (has_con w b bd T u1 u2 u3 u4 rate burst grains time (min size burst) now t tn h1) ?k1 ?k2 ?k3 ?k4 ?k5 ?kK ?kp ?ko ?kd ?ku ?_
  cell_call
  (case kp => lcg_src)
  case ko =>
    intro c hc r hr
    simp only [List.map_cons, List.map_nil, List.mem_cons, List.not_mem_nil, or_false] at hc hr
    rcases hc with rfl | rfl <;> rcases hr with rfl | rfl
    · exact hxb
    · exact n4.symm
    · exact n3
    · exact hxd
  intro r' post h' tk' hP' F' N' fr'
  obtain ⟨rfl, u3', u4', rfl⟩ := hP'
  clear fr'
  (try simp only [List.cons_append, List.nil_append] at N')
  have hOk : sentOk rate burst grains time size now ↔ min size burst * 100 ≤ fillG rate burst grains time now := Iff.rfl
  k_steps
  · unfold Hold
    refine' con_upd (spend_con w b bd T u1 u2 u3' u4' rate burst (fillG rate burst grains time now) (fillT time now) size ts) ?k1 ?k2 ?k3 ?k4 ?k5 ?kK ?kp ?ko ?kd ?ku ?_
    cell_call
    (case kp => lcg_src)
    case ko =>
      intro c hc r hr
      simp only [List.map_cons, List.map_nil, List.mem_cons, List.not_mem_nil, or_false] at hc hr
      rcases hc with rfl | rfl <;> rcases hr with rfl | rfl
      · exact hxb
      · exact n4.symm
      · exact n3
      · exact hxd
    intro r' post h' tk' hP' F' N' fr'
    obtain ⟨u3'', rfl⟩ := hP'
    clear fr'
    (try simp only [List.cons_append, List.nil_append] at N')
    k_steps
    refine con_end hret (by assumption) (by assumption) (by assumption) (by assumption) (by assumption) _ ?_ (.inl ⟨hOk.mpr (by assumption), rfl, u3'', u4', rfl⟩)
    lcg_sub
  · refine con_end hret (by assumption) (by assumption) (by assumption) (by assumption) (by assumption) _ ?_ (.inr ⟨fun h => absurd (hOk.mp h) (by omega), rfl, u3', u4', rfl⟩)
    lcg_sub
end
end
-- ShL
example : True := by
  w_top off
  trivial
section
set_option genInjectivity false in
structure ShInv (rate burst g now : Int) (G : List (Int × Int)) : Prop where
  le : g ≤ burst * 100
  a : ∀ (f : Nat) p, G[f]? = some p → g + 100 * ((G.drop f).map Prod.snd).sum ≤ 100 * burst + rate * (now - p.1)
  b : ∀ (f i : Nat) p q, G[f]? = some p → (G.drop f)[i]? = some q → 100 * (((G.drop f).take (i + 1)).map Prod.snd).sum ≤ 100 * max burst q.2 + rate * (q.1 - p.1)
theorem ShInv.start (rate burst : Int) : ShInv rate burst (burst * 100) 0 [] := ⟨Int.le_refl _, fun f p h => by simp at h, fun f i p q h => by simp at h⟩
theorem ShInv.fill {rate burst g now d : Int} {G : List (Int × Int)} (h : ShInv rate burst g now G) (hd : 0 ≤ d) (hr : 0 ≤ rate) : ShInv rate burst (fillG rate burst g now (now + d)) (now + d) G ∧ fillT now (now + d) = now + d := by
  have e : fillG rate burst g now (now + d) = min (g + rate * d) (burst * 100) := by
    unfold fillG
    split
    · have : d = 0 := by (first | lia | omega)
      subst this
      have := h.le
      rw [Int.mul_zero]
      (first | lia | omega)
    · rw [show now + d - now = d by (first | lia | omega)]
  have hle : fillG rate burst g now (now + d) ≤ g + rate * d := by rw [e]; (first | lia | omega)
  refine ⟨⟨by rw [e]; (first | lia | omega), fun f p hp => ?_, h.b⟩, ?_⟩
  · have h1 := h.a f p hp
    have h2 : rate * (now + d - p.1) = rate * (now - p.1) + rate * d := by rw [← Int.mul_add]; congr 1; (first | lia | omega)
    rw [h2]
    (first | lia | omega)
  · unfold fillT
    split <;> (first | lia | omega)
theorem ShInv.sent {rate burst g now m : Int} {G : List (Int × Int)} (h : ShInv rate burst g now G) (hm : min m burst * 100 ≤ g) (hm0 : 0 ≤ m) : ShInv rate burst (g - m * 100) now (G ++ [(now, m)]) := by
  have hle := h.le
  have dropE : ∀ f, f ≤ G.length → (G ++ [(now, m)]).drop f = G.drop f ++ [(now, m)] := fun f hf => List.drop_append_of_le_length hf
  have hA : ∀ (f : Nat) p, (G ++ [(now, m)])[f]? = some p → (g - m * 100) + 100 * (((G ++ [(now, m)]).drop f).map Prod.snd).sum ≤ 100 * burst + rate * (now - p.1) := by
    intro f p hp
    have hf : f < G.length + 1 := by have := (List.getElem?_eq_some_iff.mp hp).1; simpa using this
    rw [dropE f (by (first | lia | omega)), List.map_append, List.sum_append]
    by_cases hfl : f < G.length
    · rw [List.getElem?_append_left hfl] at hp
      have := h.a f p hp
      simp only [List.map_cons, List.map_nil, List.sum_cons, List.sum_nil]
      (first | lia | omega)
    · have : f = G.length := by (first | lia | omega)
      subst this
      rw [List.getElem?_append_right (Nat.le_refl _), Nat.sub_self] at hp
      cases hp
      simp
      (first | lia | omega)
  refine ⟨by (first | lia | omega), hA, fun f i p q hp hq => ?_⟩
  have hf : f < G.length + 1 := by have := (List.getElem?_eq_some_iff.mp hp).1; simpa using this
  have hA' := hA f p hp
  rw [dropE f (by (first | lia | omega))] at hq hA' ⊢
  by_cases hi : i < (G.drop f).length
  · rw [List.getElem?_append_left hi] at hq
    rw [List.take_append_of_le_length (by (first | lia | omega))]
    have hfl : f < G.length := by rw [List.length_drop] at hi; (first | lia | omega)
    rw [List.getElem?_append_left hfl] at hp
    exact h.b f i p q hp hq
  · have hil := (List.getElem?_eq_some_iff.mp hq).1
    rw [List.length_append] at hil
    simp only [List.length_cons, List.length_nil] at hil
    have hie : i = (G.drop f).length := by (first | lia | omega)
    rw [List.getElem?_append_right (by (first | lia | omega)), hie, Nat.sub_self] at hq
    cases hq
    rw [List.take_of_length_le (by simp [hie])]
    show 100 * _ ≤ 100 * max burst m + rate * (now - p.1)
    (first | lia | omega)
theorem menu {xs : List Int} {vs : List Value} (h : IntsAre vs xs) {d : Int} (h0 : 0 ≤ d) (h1 : d < xs.length) : ∃ (x : Int) (t : Tok), vs[d.toNat]? = some (.int x t) ∧ x ∈ xs := by
  have hl : d.toNat < xs.length := by omega
  obtain ⟨t, ht⟩ := h.get d.toNat xs[d.toNat] (List.getElem?_eq_getElem hl)
  exact ⟨_, t, ht, List.getElem_mem hl⟩
end
-- Shw
example : True := by
  w_top off
  trivial
section
noncomputable abbrev shL (x xd b bd : Nat) (T : BkT) (u1 u2 u3 u4 : Nat) (rate burst g now : Int) (gA ep : Nat) (vs : List Value) (ca : Nat) (o : Obj) (TT : Led) : Led :=
  (x, instObj 329 xd) :: (xd, shD T b) :: (b, instObj 287 bd) :: (bd, bkD T u1 u2 u3 u4 rate burst g now) :: (gA, listOf vs.toArray ep) :: (ca, o) :: TT
noncomputable def SInv (x xd b bd : Nat) (T : BkT) (u1 u2 : Nat) (rate burst : Int) (tR tB : Tok) (gA ca It : Nat) (i : Nat) (m : Str → Option Value) (news : Led) : Prop :=
  ∃ (o : Obj) (g now : Int) (u3 u4 ep : Nat) (tn : Tok) (vs : List Value) (G : List (Int × Int)) (TT : Led), news = shL x xd b bd T u1 u2 u3 u4 rate burst g now gA ep vs ca o TT ∧ CellOk o ∧ FrsAre TT vs G ∧ ShInv rate burst g now G ∧ G.length ≤ i ∧
    (0 ≤ now ∧ now ≤ 20 * (i : Int)) ∧ ((i = 0 ∧ g = burst * 100) ∨ G ≠ []) ∧ OwnOff TT [x, xd, b, bd, gA, ca, It] ∧ (∀ p ∈ G, (0 ≤ p.1 ∧ p.1 ≤ 1000) ∧ 1 ≤ p.2 ∧ p.2 ≤ 14) ∧
    AllM m [(Str.ofString "cells", .ref ca), (Str.ofString "rate", .int rate tR), (Str.ofString "burst", .int burst tB), (Str.ofString "now", .int now tn), (Str.ofString "gone", .ref gA), (Str.ofString "shaper", .ref x)]
theorem sh_off {x xd b bd : Nat} {T : BkT} {u1 u2 u3 u4 : Nat} {rate burst g now : Int} {gA ep : Nat} {vs : List Value} {ca It : Nat} {o oI : Obj} {TT : Led} (ix : NeA x It) (ixd : NeA xd It) (ib : NeA b It) (ibd : NeA bd It) (ig : NeA gA It) (ic : NeA ca It) (hTT : OwnOff TT [x, xd, b, bd, gA, ca, It]) :
    ∀ p ∈ shL x xd b bd T u1 u2 u3 u4 rate burst g now gA ep vs ca o TT, ∀ q ∈ ([(It, oI)] : Led), p.1 ≠ q.1 := fun p hp q hq => by
  rw [List.mem_singleton.mp hq]
  simp only [shL, List.mem_cons] at hp
  rcases hp with rfl | rfl | rfl | rfl | rfl | rfl | hp
  · exact ix
  · exact ixd
  · exact ib
  · exact ibd
  · exact ig
  · exact ic
  · exact hTT p hp It (by simp)
theorem ownoff_cons {p : Addr × Obj} {TT : Led} {X : List Nat} (h : OwnOff TT X) (k : ∀ y ∈ X, y < p.1) : OwnOff (p :: TT) X := fun r hr y hy => by
  rcases List.mem_cons.mp hr with rfl | hr
  · exact (Nat.ne_of_lt (k y hy)).symm
  · exact h r hr y hy
theorem frs_drop {R : Led} {vs xs} (h : FrsAre R vs xs) : ∀ f, FrsAre R (vs.drop f) (xs.drop f) := by
  induction h with
  | nil => intro f; simp; exact .nil
  | cons h1 h2 ih =>
    intro f
    cases f with
    | zero => exact .cons h1 h2
    | succ f => simpa using ih f
section
open EpsOn
theorem shaper_con (w : World) (ca : Nat) (o : Obj) (ho : CellOk o) : Con w 390 [.ref ca] 10 600 [(ca, o)] (Cellp ca) := by
  revert w ca o ho
  intro w ca o ho
  refine con_cx ?_
  k_extra "cx"
  intro B F X N T hk hd hu hret
  refine wpAny_call ?_
  k_dflt (cell_ask [(Str.ofString "cells", .ref ca)])
  rename_i g1 L1 h1 FG1 F1 N1 B1 X1 T1 hin1 l11
  k_with "con" => (refine hold ?_)
  k_with "rest" => (refine hold ?_)
  k_with "restP" => (refine hold ?_)
  k_with "items" => (refine hold ?_)
  k_with "while" => (refine hold ?_)
  k_with "menu" => (refine hold ?_)
  k_steps
  unfold Hold
  refine' con_upd (drawC w ca o 3 _ ho (by decide) (by decide)) ?k1 ?k2 ?k3 ?k4 ?k5 ?kK ?kp ?ko ?kd ?ku ?_
  cell_step
  rintro r' post h' tk' ⟨d1, td1, o1, rfl, hd1, hd1', rfl, ho1⟩ F' N' fr'
  clear fr'
  (try simp only [List.cons_append, List.nil_append] at N')
  k_steps
  unfold Hold
  refine' con_upd (drawC w ca o1 2 _ ho1 (by decide) (by decide)) ?k1 ?k2 ?k3 ?k4 ?k5 ?kK ?kp ?ko ?kd ?ku ?_
  cell_step
  rintro r' post h' tk' ⟨d2, td2, o2, rfl, hd2, hd2', rfl, ho2⟩ F' N' fr'
  clear fr'
  (try simp only [List.cons_append, List.nil_append] at N')
  have hrate : 0 ≤ ([20, 100, 400] : List Int).getD d1.toNat 0 ∧ ([20, 100, 400] : List Int).getD d1.toNat 0 ≤ 1000 := by
    have : d1 = 0 ∨ d1 = 1 ∨ d1 = 2 := by (first | lia | omega)
    rcases this with rfl | rfl | rfl <;> decide
  have hburst : 1 ≤ ([3, 10] : List Int).getD d2.toNat 0 ∧ ([3, 10] : List Int).getD d2.toNat 0 ≤ 1000 := by
    have : d2 = 0 ∨ d2 = 1 := by (first | lia | omega)
    rcases this with rfl | rfl <;> decide
  k_steps
  unfold Hold
  rename_i tR lM _ _ tB gA _ hgA lT _ _ _ _ _ _ _ FA NA
  generalize ([20, 100, 400] : List Int).getD d1.toNat 0 = rate at *
  generalize ([3, 10] : List Int).getD d2.toNat 0 = burst at *
  refine' con_upd (shNew_con w rate burst _ _ hrate.1 hburst.1) ?k1 ?k2 ?k3 ?k4 ?k5 ?kK ?kp ?ko ?kd ?ku ?_
  cell_call
  (case kp => exact Pick.nil)
  (case ko => exact fun _ h => (nomatch h))
  rintro r' post h' tk' ⟨x, xd, b, bd, T, u1, u2, u3, u4, rfl, rfl, hxb, hxd⟩ F' N' fr'
  (try simp only [List.cons_append, List.nil_append] at N')
  have hfr : ∀ q ∈ ([(x, instObj 329 xd), (xd, shD T b), (b, instObj 287 bd), (bd, bkD T u1 u2 u3 u4 rate burst (burst * 100) 0)] : Led), gA ≠ q.1 ∧ ca ≠ q.1 := fun q hq => by
    have h := (fr' q hq).resolve_left (fun h => nomatch h)
    exact ⟨h (gA, _) (by k_mem), h (ca, o2) (by k_mem)⟩
  have gx : NeA gA x := (hfr _ (.head _)).1
  have gxd : NeA gA xd := (hfr _ (.tail _ (.head _))).1
  have gb : NeA gA b := (hfr _ (.tail _ (.tail _ (.head _)))).1
  have gbd : NeA gA bd := (hfr _ (.tail _ (.tail _ (.tail _ (.head _))))).1
  have cx : NeA ca x := (hfr _ (.head _)).2
  have cxd : NeA ca xd := (hfr _ (.tail _ (.head _))).2
  have cb : NeA ca b := (hfr _ (.tail _ (.tail _ (.head _)))).2
  have cbd : NeA ca bd := (hfr _ (.tail _ (.tail _ (.tail _ (.head _))))).2
  have gca : NeA ca gA := Nat.ne_of_lt (hgA (ca, o2) (by k_mem))
  clear fr' hfr
  replace N' := kst_newsOf (l' := shL x xd b bd T u1 u2 u3 u4 rate burst (burst * 100) 0 gA 0 [] ca o2 []) N' (by lcg_sub)
  clear NA
  k_steps
  unfold Hold
  intro It hIf
  have ix : NeA x It := Nat.ne_of_lt (hIf (x, _) (by k_mem))
  have ixd : NeA xd It := Nat.ne_of_lt (hIf (xd, shD T b) (by k_mem))
  have ib : NeA b It := Nat.ne_of_lt (hIf (b, instObj 287 bd) (by k_mem))
  have ibd : NeA bd It := Nat.ne_of_lt (hIf (bd, bkD T u1 u2 u3 u4 rate burst (burst * 100) 0) (by k_mem))
  have ig : NeA gA It := Nat.ne_of_lt (hIf (gA, listOf ([] : List Value).toArray 0) (by k_mem))
  have ic : NeA ca It := Nat.ne_of_lt (hIf (ca, o2) (by k_mem))
  refine turns_ind (SInv x xd b bd T u1 u2 rate burst tR tB gA ca It) ?turn ?fin _ 0 _ _ (Nat.zero_add _) ⟨o2, burst * 100, 0, u3, u4, 0, _, [], [], [], rfl, ho2, .nil, ShInv.start _ _, Nat.le_refl _, by decide, .inl ⟨rfl, rfl⟩, fun _ h => (nomatch h), fun _ h => (nomatch h), ⟨rfl, rfl, rfl, rfl, rfl, rfl, trivial⟩⟩
  case turn =>
    intro i it v m news h tk hit hitv hInv F2 oI hI2 N2
    obtain ⟨hi, tv, rfl⟩ := range_item hit hitv
    obtain ⟨o, g, now, u3, u4, ep, tn, vs, G, TT, hnw, ho, hG, hS, hGl, hnow, hG0, hTT, hGb, hM⟩ := hInv
    rw [hnw] at N2
    replace F2 := fr_as hM F2
    dsimp only [kstB] at F2
    clear hnw hit hitv
    k_steps
    unfold Hold
    refine' con_upd (drawC w ca o 4 _ ho (by decide) (by decide)) ?k1 ?k2 ?k3 ?k4 ?k5 ?kK ?kp ?ko ?kd ?ku ?_
    cell_step
    rintro r' post h' tk' ⟨da, ta, oa, rfl, ha1, ha2, rfl, hoa⟩ F' N' fr'
    clear fr'
    (try simp only [List.cons_append, List.nil_append] at N')
    k_steps
    unfold Hold
    refine' con_upd (drawC w ca oa 4 _ hoa (by decide) (by decide)) ?k1 ?k2 ?k3 ?k4 ?k5 ?kK ?kp ?ko ?kd ?ku ?_
    cell_step
    rintro r' post h' tk' ⟨db, tb, ob, rfl, hb1, hb2, rfl, hob⟩ F' N' fr'
    clear fr'
    (try simp only [List.cons_append, List.nil_append] at N')
    have hmany : 1 ≤ ([1, 3, 10, 14] : List Int).getD db.toNat 0 ∧ ([1, 3, 10, 14] : List Int).getD db.toNat 0 ≤ 14 := by
      have : db = 0 ∨ db = 1 ∨ db = 2 ∨ db = 3 := by (first | lia | omega)
      rcases this with rfl | rfl | rfl | rfl <;> decide
    have hdel : 0 ≤ ([0, 1, 5, 20] : List Int).getD da.toNat 0 ∧ ([0, 1, 5, 20] : List Int).getD da.toNat 0 ≤ 20 := by
      have : da = 0 ∨ da = 1 ∨ da = 2 ∨ da = 3 := by (first | lia | omega)
      rcases this with rfl | rfl | rfl | rfl <;> decide
    k_steps
    unfold Hold
    generalize ([1, 3, 10, 14] : List Int).getD db.toNat 0 = many at *
    generalize ([0, 1, 5, 20] : List Int).getD da.toNat 0 = dl at *
    obtain ⟨hS1, hT1⟩ := hS.fill hdel.1 hrate.1
    refine' con_upd (sent_con w x xd b bd T u1 u2 u3 u4 rate burst g now many (now + dl) _ _ hrate hxb hxd) ?k1 ?k2 ?k3 ?k4 ?k5 ?kK ?kp ?ko ?kd ?ku ?_
    cell_step
    intro r' post h' tk' hP F' N' fr'
    clear fr'
    have hvl : vs.length ≤ 1000000 := by
      have h1 := hG.len
      have h2 : i ≤ 12 := by (first | lia | omega)
      (first | lia | omega)
    (try simp only [List.cons_append, List.nil_append] at N')
    simp only [hT1] at hP
    rcases hP with ⟨hok, rfl, u3', u4', rfl⟩ | ⟨hok, rfl, u3', u4', rfl⟩
    · (try simp only [List.cons_append, List.nil_append] at N')
      k_steps
      rename_i lN _ hlN _ FN NN
      have hTT' : ∀ t1 t2, OwnOff ((lN, tupOf #[.int (now + dl) t1, .int many t2] 0) :: TT) [x, xd, b, bd, gA, ca, It] := fun t1 t2 => ownoff_cons hTT (fun y hy => by
        simp only [List.mem_cons, List.not_mem_nil, or_false] at hy
        rcases hy with rfl | rfl | rfl | rfl | rfl | rfl | rfl
        · exact hlN (_, instObj 329 xd) (by k_mem)
        · exact hlN (_, shD T b) (by k_mem)
        · exact hlN (_, instObj 287 bd) (by k_mem)
        · exact hlN (_, bkD T u1 u2 u3' u4' rate burst (fillG rate burst g now (now + dl) - many * 100) (now + dl)) (by k_mem)
        · exact hlN (_, listOf vs.toArray ep) (by k_mem)
        · exact hlN (_, ob) (by k_mem)
        · exact hlN (_, oI) (by k_mem))
      unfold Hold
      refine' unr_end FN NN (shL x xd b bd T u1 u2 u3' u4' rate burst (fillG rate burst g now (now + dl) - many * 100) (now + dl) gA (ep + 1) (vs ++ [.ref lN]) ca ob ((lN, tupOf #[.int (now + dl) _, .int many _] 0) :: TT)) ?s1 (sh_off ix ixd ib ibd ig ic (hTT' _ _)) ?_
      (case s1 => lcg_sub)
      refine ⟨trivial, ob, _, now + dl, u3', u4', ep + 1, _, _, G ++ [(now + dl, many)], _, rfl, hob, (hG.mono fun a x hx => .tail _ hx).snoc (x := (now + dl, many)) (.head _), hS1.sent hok (by (first | lia | omega)), by simp; (first | lia | omega), by (first | lia | omega), .inr (by simp), hTT' _ _, fun p hp => ?_, ⟨rfl, rfl, rfl, rfl, rfl, rfl, trivial⟩⟩
      rcases List.mem_append.mp hp with hp | hp
      · exact hGb p hp
      · rw [List.mem_singleton.mp hp]; constructor <;> dsimp only <;> (first | lia | omega)
    · (try simp only [List.cons_append, List.nil_append] at N')
      k_steps
      unfold Hold
      refine' unr_end ?F1 ?N1 (shL x xd b bd T u1 u2 u3' u4' rate burst (fillG rate burst g now (now + dl)) (now + dl) gA ep vs ca ob TT) ?s2 (sh_off ix ixd ib ibd ig ic hTT) ?_
      (case F1 => k_asm)
      (case N1 => k_asm)
      (case s2 => lcg_sub)
      refine ⟨trivial, ob, _, now + dl, u3', u4', ep, _, vs, G, TT, rfl, hob, hG, hS1, by (first | lia | omega), by (first | lia | omega), ?_, hTT, hGb, ⟨rfl, rfl, rfl, rfl, rfl, rfl, trivial⟩⟩
      rcases hG0 with ⟨rfl, hg⟩ | hG0
      · exfalso
        apply hok
        unfold sentOk fillG
        have : 0 ≤ rate * (now + dl - now) := Int.mul_nonneg hrate.1 (by (first | lia | omega))
        split <;> (first | lia | omega)
      · exact .inr hG0
  case fin =>
    intro m news hInv h tk F2 N2
    obtain ⟨o, g, now, u3, u4, ep, tn, vs, G, TT, hnw, ho, hG, hS, hGl, hnow, hG0, hTT, hGb, hM⟩ := hInv
    rw [hnw] at N2
    replace F2 := fr_as hM F2
    dsimp only [kstB] at F2
    replace hG0 : G ≠ [] := hG0.resolve_left (fun h => by have := h.1; simp at this)
    have hvG := hG.len
    have hGl2 : G.length ≤ 12 := by simpa using hGl
    have hvl : vs.length ≤ 1000000 := by (first | lia | omega)
    clear hnw hGl
    k_steps
    unfold Hold
    intro It2 hIf2
    refine turns_ind (fun i m news => news = shL x xd b bd T u1 u2 u3 u4 rate burst g now gA ep vs ca o TT ∧ AllM m [(Str.ofString "rate", .int rate tR), (Str.ofString "burst", .int burst tB), (Str.ofString "gone", .ref gA)]) ?turn2 ?fin2 _ 0 _ _ (Nat.zero_add _) ⟨rfl, ⟨rfl, rfl, rfl, trivial⟩⟩
    case turn2 =>
      intro f it v m news h tk hit hitv hInv F2 oI hI2 N2
      obtain ⟨hi, tv, rfl⟩ := range_item hit hitv
      obtain ⟨hnw, hM⟩ := hInv
      rw [hnw] at N2
      replace F2 := fr_as hM F2
      dsimp only [kstB] at F2
      clear hnw hit hitv
      have hfG : f < G.length := by (first | lia | omega)
      obtain ⟨p0, hp0⟩ : ∃ p, G[f]? = some p := ⟨_, List.getElem?_eq_getElem hfG⟩
      obtain ⟨e0, te0, ue0, hv0, hm0⟩ := hG.at hp0
      have hv0' : vs[((0 : Int) + (f : Int)).toNat]? = some (.ref e0) := by
        have : ((0 : Int) + (f : Int)).toNat = f := by (first | lia | omega)
        rw [this]; exact hv0
      have hpb0 := hGb p0 (List.mem_of_getElem? hp0)
      k_steps
      unfold Hold
      rename_i DS hDS FS NS hlDS
      intro It3 hIf3
      generalize hvd : vs.drop ((0 : Int) + (f : Int)).toNat = vd at *
      have hvd' : vd = vs.drop f := by
        rw [← hvd]; congr 1; (first | lia | omega)
      have hGd : FrsAre TT vd (G.drop f) := by
        rw [hvd']
        exact frs_drop hG f
      have hoff3 : ∀ p ∈ ((DS, listOf vd.toArray 0) :: (It2, oI) :: shL x xd b bd T u1 u2 u3 u4 rate burst g now gA ep vs ca o TT : Led), p.1 ≠ It3 := fun p hp => Nat.ne_of_lt (hIf3 p hp)
      refine turns_ind (fun i m news => news = (DS, listOf vd.toArray 0) :: (It2, oI) :: shL x xd b bd T u1 u2 u3 u4 rate burst g now gA ep vs ca o TT ∧ ∃ tO, AllM m [(Str.ofString "rate", .int rate tR), (Str.ofString "burst", .int burst tB), (Str.ofString "gone", .ref gA), (Str.ofString "first", .int ((0 : Int) + (f : Int)) tv), (Str.ofString "octets", .int (((G.drop f).take i).map Prod.snd).sum tO)]) ?turn3 ?fin3 _ 0 _ _ (Nat.zero_add _) ⟨rfl, _, ⟨rfl, rfl, rfl, rfl, rfl, trivial⟩⟩
      case turn3 =>
        intro i it v m news h tk hit hitv hInv F2 oI3 hI3 N2
        obtain ⟨hnw, tO, hM⟩ := hInv
        rw [hnw] at N2
        replace F2 := fr_as hM F2
        dsimp only [kstB] at F2
        rw [List.getElem?_map] at hit
        cases hvi : vd[i]? with
        | none => rw [hvi] at hit; cases hit
        | some v' =>
        rw [hvi] at hit
        cases hit
        have hv : v = v' := hitv
        subst hv
        obtain ⟨e1, te1, ue1, q, hq, rfl, hm1⟩ := hGd.back hvi
        have hqb := hGb q (List.mem_of_mem_drop (List.mem_of_getElem? hq))
        have hkey := hS.b f i p0 q hp0 hq
        have hsum : (((G.drop f).take (i + 1)).map Prod.snd).sum = (((G.drop f).take i).map Prod.snd).sum + q.2 := by
          rw [take_snoc hq, List.map_append, List.sum_append]; simp
        clear hnw
        generalize hSi : (((G.drop f).take i).map Prod.snd).sum = Si at *
        generalize hSj : (((G.drop f).take (i + 1)).map Prod.snd).sum = Sj at *
        subst hsum
        have hroom3 : ∀ p ∈ TT, True := fun _ _ => trivial
        have hg0 := hv0'
        k_steps
        cell_end 7 ((DS, listOf vd.toArray 0) :: (It2, oI) :: shL x xd b bd T u1 u2 u3 u4 rate burst g now gA ep vs ca o TT) (fun p hp q hq => by rw [List.mem_singleton.mp hq]; exact hoff3 p hp)
        exact ⟨⟨.head _, trivial⟩, rfl, _, ⟨rfl, rfl, rfl, rfl, rfl, trivial⟩⟩
      case fin3 =>
        intro m news hInv h tk F2 N2
        obtain ⟨hnw, tO, hM⟩ := hInv
        rw [hnw] at N2
        replace F2 := fr_as hM F2
        dsimp only [kstB] at F2
        k_steps
        cell_end 7 (shL x xd b bd T u1 u2 u3 u4 rate burst g now gA ep vs ca o TT) (fun p hp q hq => by rw [List.mem_singleton.mp hq]; exact Nat.ne_of_lt (hIf2 p hp))
        exact ⟨trivial, rfl, ⟨rfl, rfl, rfl, trivial⟩⟩
    case fin2 =>
      intro m news hInv h tk F2 N2
      obtain ⟨hnw, hM⟩ := hInv
      rw [hnw] at N2
      replace F2 := fr_as hM F2
      dsimp only [kstB] at F2
      k_steps
      have hne : vs.isEmpty = false := by
        cases hvs : vs with
        | nil => rw [hvs] at hvG; exact absurd (List.length_eq_zero_iff.mp hvG.symm) hG0
        | cons => rfl
      rw [hne]
      exact con_end hret hin1 (by assumption) (by assumption) (by assumption) (by assumption) [(ca, o)] (by lcg_sub) ⟨rfl, o, rfl, ho⟩
end
end
-- FixL
example : True := by
  w_top off
  trivial
section
noncomputable def fw (U : Int) (r0 r1 : List It) (l0 l1 t : Int) : WfA := ⟨[⟨1, 99, r0⟩, ⟨9, 99, r1⟩], [l0, l1], [U, U], t⟩
theorem fw0 (U : Int) : (WfA.mk (([(1, 99), (9, 99)] : List (Int × Int)).map fun l => ⟨l.1, l.2, []⟩) (List.replicate ([1, 1] : List Int).length 0) (([1, 1] : List Int).map fun x => U.fdiv x) 0) = fw U [] [] 0 0 0 := by
  simp [fw]
theorem fw1 {U : Int} (a : Value) : (fw U [] [] 0 0 0).reset.added 0 2 a = fw U [⟨2 * U, 2, a⟩] [] (2 * U) 0 0 := by
  simp [fw, WfA.reset, WfA.added, WfA.next, List.modify]
theorem fw2 {U : Int} (a : Value) : (fw U [⟨2 * U, 2, a⟩] [] (2 * U) 0 0).reset = fw U [⟨2 * U, 2, a⟩] [] (2 * U) 0 0 := by
  simp [fw, WfA.reset]
theorem fw3 {U : Int} (a b : Value) : (fw U [⟨2 * U, 2, a⟩] [] (2 * U) 0 0).reset.added 1 20 b = fw U [⟨2 * U, 2, a⟩] [⟨20 * U, 20, b⟩] (2 * U) (20 * U) 0 := by
  simp [fw, WfA.reset, WfA.added, WfA.next, List.modify]
theorem fw4 {U : Int} (hU : 0 < U) (b c : Value) : (fw U [] [⟨20 * U, 20, b⟩] (2 * U) (20 * U) (2 * U)).reset.added 0 3 c = fw U [⟨5 * U, 3, c⟩] [⟨20 * U, 20, b⟩] (5 * U) (20 * U) (2 * U) := by
  simp [fw, WfA.reset, WfA.added, WfA.next, List.modify]
  (first | lia | omega)
theorem fwT0 {U f0 f1 l0 l1 t s0 s1 : Int} {q : Nat} {v a b : Value} {post : Led} (h : TakeP q (fw U [⟨f0, s0, a⟩] [⟨f1, s1, b⟩] l0 l1 t) v post) (h1 : f0 < f1) (h2 : t ≤ f0) :
    ∃ (y : Nat) (tk ts : Tok) (P : Led), v = .ref y ∧ post = (y, tupOf #[.int 0 tk, .int s0 ts, a] 0) :: P ∧ WfAt q (fw U [] [⟨f1, s1, b⟩] l0 l1 f0) P := by
  rcases h with ⟨h, _⟩ | ⟨k, r, it, its, y, tk, ts, P, hk, hi, hm, rfl, rfl, hA⟩
  · exact absurd (h ⟨1, 99, [⟨f0, s0, a⟩]⟩ (by simp [fw])) (by simp)
  · rcases k with _ | _ | k
    · simp [fw] at hk
      subst hk
      simp at hi
      obtain ⟨rfl, rfl⟩ := hi
      refine ⟨y, tk, ts, P, rfl, rfl, ?_⟩
      have e : (fw U [⟨f0, s0, a⟩] [⟨f1, s1, b⟩] l0 l1 t).taken 0 ⟨f0, s0, a⟩ = fw U [] [⟨f1, s1, b⟩] l0 l1 f0 := by
        simp [fw, WfA.taken, List.modify]; (first | lia | omega)
      rw [← e]; exact hA
    · simp [fw] at hk
      subst hk
      simp at hi
      obtain ⟨rfl, rfl⟩ := hi
      exact absurd (hm 0 ⟨1, 99, [⟨f0, s0, a⟩]⟩ (by simp [fw]) (by simp)) (by simp [klt, fw, WfA.headFin]; (first | lia | omega))
    · simp [fw] at hk
theorem fwT1 {U f1 l0 l1 t s1 : Int} {q : Nat} {v b : Value} {post : Led} (h : TakeP q (fw U [] [⟨f1, s1, b⟩] l0 l1 t) v post) (h2 : t ≤ f1) :
    ∃ (y : Nat) (tk ts : Tok) (P : Led), v = .ref y ∧ post = (y, tupOf #[.int 1 tk, .int s1 ts, b] 0) :: P ∧ WfAt q (fw U [] [] l0 l1 f1) P := by
  rcases h with ⟨h, _⟩ | ⟨k, r, it, its, y, tk, ts, P, hk, hi, hm, rfl, rfl, hA⟩
  · exact absurd (h ⟨9, 99, [⟨f1, s1, b⟩]⟩ (by simp [fw])) (by simp)
  · rcases k with _ | _ | k
    · simp [fw] at hk
      subst hk
      simp at hi
    · simp [fw] at hk
      subst hk
      simp at hi
      obtain ⟨rfl, rfl⟩ := hi
      refine ⟨y, tk, ts, P, rfl, rfl, ?_⟩
      have e : (fw U [] [⟨f1, s1, b⟩] l0 l1 t).taken 1 ⟨f1, s1, b⟩ = fw U [] [] l0 l1 f1 := by
        simp [fw, WfA.taken, List.modify]; (first | lia | omega)
      rw [← e]; exact hA
    · simp [fw] at hk
theorem fwT2 {U l0 l1 t : Int} {q : Nat} {v : Value} {post : Led} (h : TakeP q (fw U [] [] l0 l1 t) v post) : v = .none ∧ WfAt q (fw U [] [] l0 l1 t) post := by
  rcases h with ⟨_, h⟩ | ⟨k, r, it, its, y, tk, ts, P, hk, hi, hm, _⟩
  · exact h
  · rcases k with _ | _ | k <;> simp [fw] at hk <;> subst hk <;> simp at hi
end
-- Fix
example : True := by
  w_top off
  trivial
section
theorem con_all {w : World} {f : Addr} {vs : List Value} {dn un0 : Nat} {W : Led} {Post : Value → Led → Prop}
    {p : Program} {loose : List Str} {mean : ExcName → Option Value} {mg mb : Str → Option Value}
    {dp un : Nat} {gd : Option (List Code)} {cn : Str} {cs : Scope} {a : Addr} {ccd : Value} {cl : List (Str × Addr)} {outer : List Env} {A₀ : Around} {base h₀ : Heap} {L : Addr} {m : Str → Option Value}
    {s : Shared} {Q E : Value → Shared → Prop} (N : News h₀ L s.heap W) (C : Con w f vs dn un0 W Post)
    (B : Below A₀ base outer h₀) (F : Fr h₀ L s.heap m) (X : (Mine.hd.heap_1 w.params).In h₀) (N0 : News h₀ L s.heap W) (T : Top p loose mean mg mb h₀) (hk : cs.kind = .function)
    (hd : dp + dn < recursionLimit) (hu : un + un0 < cLine)
    (ret : ∀ r post h' tk', Post r post → Fr h₀ L h' m → News h₀ L h' post → Q r { s with heap := h', toks := tk' }) :
    wpAny (model pw w) (ktrTop dp un gd cn cs L a ccd cl outer) (call (.ref f) vs) Q E s :=
  con_pre (R := []) C B F X N T hk hd hu (fun q hq => by simpa using hq) (fun _ _ _ hr => (List.not_mem_nil hr).elim) fun r post h' tk' hP F' N' _ =>
    ret r post h' tk' hP F' (by rw [List.append_nil] at N'; exact N')
theorem wf_obj {q : Nat} {A : WfA} {W : Led} (hA : WfAt q A W) : ∃ (qd : Nat) (T : WfT) (t1 t6 : Nat) (unit : Int) (sa ra fa la : Nat), (q, instObj 217 qd) ∈ W ∧ (qd, wfD T t1 t6 unit sa ra fa la A.time) ∈ W := by
  obtain ⟨I, hI⟩ := hA
  exact ⟨I.qd, I.T, I.t1, I.t6, I.unit, I.sa, I.ra, I.fa, I.la, hI.m1, hI.m2⟩
theorem str_same {A : Around} {s : Shared} (a : Str) (t u : Tok) : SeqAt.EqAt A s (.str a t) (.str a u) true := by
  have h := SeqAt.EqAt.str_str (A := A) (s := s) a t a u
  rwa [beq_self_eq_true] at h
theorem eq4 {prog : Program} {w : World} {A : Around} {E : Value → Shared → Prop} {s : Shared} {h₀ : Heap} {L a b : Addr} {news : Led} {n1 n2 : Nat} {x0 x1 x2 x3 y0 y1 y2 y3 : Value} {Q : Value → Shared → Prop} (N : News h₀ L s.heap news)
    (ha : (a, listOf #[x0, x1, x2, x3] n1) ∈ news) (hb : (b, listOf #[y0, y1, y2, y3] n2) ∈ news) (hu : A.units < cLine) (e0 : SeqAt.EqAt A.in1 s x0 y0 true) (e1 : SeqAt.EqAt A.in1 s x1 y1 true) (e2 : SeqAt.EqAt A.in1 s x2 y2 true) (e3 : SeqAt.EqAt A.in1 s x3 y3 true)
    (h : Q (.bool true) s) : wpAny (model prog w) A (compareOp .Eq (.ref a) (.ref b)) Q E s :=
  SeqAt.eq_listAt (e := fun _ => true) ⟨_, (N _ ha).1, rfl, n1, rfl⟩ ⟨_, (N _ hb).1, rfl, n2, rfl⟩ rfl hu (fun j h1 h2 => by
    match j, h1, h2 with
    | 0, _, _ => exact e0
    | 1, _, _ => exact e1
    | 2, _, _ => exact e2
    | 3, _, _ => exact e3) (by
    have e : ((List.range (#[x0, x1, x2, x3] : Array Value).size).all fun _ => true) = true := rfl
    rw [e]; exact h)
example : True := by
  k_with "compareOp Eq ref ref" => (k_here; (with_reducible show wpAny _ _ (compareOp CmpOp.Eq (Value.ref _) (Value.ref _)) _ _ _); k_dflt (refine' eq4 ?z9k1 ?z9k2 ?z9k3 ?z9k4 ?z9k5 ?z9k6 ?z9k7 ?z9k8 ?_; (case z9k1 => k_asm); (case z9k2 => k_mem); (case z9k3 => k_mem); (case z9k4 => ktr_units); (case z9k5 => first | exact SeqAt.EqAt.same _ | exact str_same _ _ _); (case z9k6 => first | exact SeqAt.EqAt.same _ | exact str_same _ _ _); (case z9k7 => first | exact SeqAt.EqAt.same _ | exact str_same _ _ _); (case z9k8 => first | exact SeqAt.EqAt.same _ | exact str_same _ _ _); k_whole))
  trivial
section
open EpsOn
theorem fixed_con (w : World) : Con w 404 [] 10 600 [] (fun v post => v = .bool true ∧ post = []) := by
  revert w
  intro w
  refine con_cx ?_
  k_extra "cx"
  intro B F X N T hk hd hu hret
  refine wpAny_call ?_
  k_dflt (cell_ask [])
  rename_i g1 L1 h1 FG1 F1 N1 B1 X1 T1 hin1 l11
  k_with "con" => (refine hold ?_)
  k_steps
  unfold Hold
  rename_i A1 H1 LL1 A2 H2 LL2 A3 H3 LL3 A4 H4 F2 N2 LL4
  refine' con_all N2 (wfNew_con w A1 A4 _ _ [.int 1 _, .int 1 _] [.ref A2, .ref A3] [1, 1] [(1, 99), (9, 99)] _ ?z1 ?z2 ?z3 ?z4 ?z5 ?z6 ?z7 ?z8 ?z9) ?k1 ?k2 ?k3 ?k4 ?k5 ?kK ?kd ?ku ?_
  cell_call
  (case z8 => k_mem)
  (case z9 => k_mem)
  (case z1 => exact .cons _ _ (.cons _ _ .nil))
  (case z2 => intro x hx; simp only [List.mem_cons, List.not_mem_nil, or_false, or_self] at hx; (first | lia | omega))
  (case z3 => decide)
  (case z4 => decide)
  (case z5 => exact .cons (by k_mem) (.cons (by k_mem) .nil))
  (case z6 => intro x hx; simp only [List.mem_cons, List.not_mem_nil, or_false] at hx; rcases hx with rfl | rfl <;> decide)
  (case z7 => rfl)
  rintro r post h' tk' ⟨q, P, U, rfl, rfl, hPR, hU, hUd, hWf⟩ F3 N3
  clear hUd hPR
  replace N3 := kst_newsOf (l' := P) N3 (fun p hp => List.mem_append_left _ hp)
  clear N2 LL1 LL2 LL3 LL4
  rw [fw0] at hWf
  obtain ⟨qd, T9, t91, t92, u9, a91, a92, a93, a94, hq1, hq2⟩ := wf_obj hWf
  k_steps
  unfold Hold
  rename_i F4 N4
  refine' con_all N4 (wfPutA w q _ 0 2 _ _ _ ⟨1, 99, []⟩ P rfl (by simp [fw]) (by simp [fw]) (by decide) (by decide) hWf) ?k1 ?k2 ?k3 ?k4 ?k5 ?kK ?kd ?ku ?_
  cell_call
  rintro r P1 h' tk' hP F5 N5
  rcases hP with ⟨_, rfl, hW1⟩ | ⟨hno, _⟩
  case inr => exact absurd ⟨by decide, by decide⟩ hno
  rw [fw1] at hW1
  generalize tk + 1 + 1 = ta at hW1
  clear hq1 hq2 hWf N4 F4
  obtain ⟨qd1, T9, t91, t92, u9, a91, a92, a93, a94, hq1, hq2⟩ := wf_obj hW1
  k_steps
  unfold Hold
  refine' con_all N5 (wfPutA w q _ 0 50 _ _ _ _ P1 rfl (by simp [fw]) (by simp [fw]) (by decide) (by decide) hW1) ?k1 ?k2 ?k3 ?k4 ?k5 ?kK ?kd ?ku ?_
  cell_call
  rintro r P2 h' tk2 hP F6 N6
  rcases hP with ⟨hno, _⟩ | ⟨_, rfl, hW2⟩
  case inl => exact absurd hno.1 (by simp)
  rw [fw2] at hW2
  clear hq1 hq2 hW1 N5 F5
  obtain ⟨qd1, T9, t91, t92, u9, a91, a92, a93, a94, hq1, hq2⟩ := wf_obj hW2
  k_steps
  unfold Hold
  refine' con_all N6 (wfPutA w q _ 1 20 _ _ _ _ P2 rfl (by simp [fw]) (by simp [fw]) (by decide) (by decide) hW2) ?k1 ?k2 ?k3 ?k4 ?k5 ?kK ?kd ?ku ?_
  cell_call
  rintro r P3 h' tk3 hP F7 N7
  rcases hP with ⟨_, rfl, hW3⟩ | ⟨hno, _⟩
  case inr => exact absurd ⟨by decide, by decide⟩ hno
  rw [fw3] at hW3
  generalize tk2 + 1 + 1 = tb at hW3
  clear hq1 hq2 hW2 N6 F6
  obtain ⟨qd1, T9, t91, t92, u9, a91, a92, a93, a94, hq1, hq2⟩ := wf_obj hW3
  k_steps
  unfold Hold
  rename_i pl H7 Lpl H8 F8 N8
  refine' con_pre (W := P3) (R := [(pl, listOf #[.bool true, .bool false, .bool true] 0)]) (wfTakeA w q _ P3 (by simp [fw]) (by simp [fw]) hW3) ?k1 ?k2 ?k3 ?k4 ?k5 ?kK ?kd ?ku ?kp (fun p hp r hr => by rw [List.mem_singleton.mp hr]; exact Nat.ne_of_lt (Lpl p hp)) ?_
  cell_call
  case kp =>
    k_extra "sub"
  rintro r post h' tk4 hP F9 N9 fr
  obtain ⟨y, tk5, ts5, P4, rfl, rfl, hW4⟩ := fwT0 hP (by (first | lia | omega)) (by (first | lia | omega))
  have fr4 : ∀ p ∈ P4, p.1 ≠ pl := fun p hp => fr p (List.mem_cons_of_mem _ hp) _ (List.mem_singleton.mpr rfl)
  replace N9 := kst_newsOf (l' := (pl, listOf #[.bool true, .bool false, .bool true] 0) :: (y, tupOf #[.int 0 tk5, .int 2 ts5, .str (Str.ofString "a") ta] 0) :: P4) N9 (by
    k_extra "sub")
  clear hq1 hq2 hW3 N8 F8 fr hP Lpl
  obtain ⟨qd1, T9, t91, t92, u9, a91, a92, a93, a94, hq1, hq2⟩ := wf_obj hW4
  k_steps
  unfold Hold
  rename_i tl H7 Ltl H8 F8 N8
  refine' con_pre (W := P4) (R := [(pl, listOf #[.bool true, .bool false, .bool true] 0), (tl, listOf #[.str (Str.ofString "a") ta] 0)]) (wfPutA w q _ 0 3 _ _ _ _ P4 rfl (by simp [fw]) (by simp [fw]) (by decide) (by decide) hW4) ?k1 ?k2 ?k3 ?k4 ?k5 ?kK ?kd ?ku ?kp (fun p hp r hr => by
    simp only [List.mem_cons, List.not_mem_nil, or_false] at hr
    rcases hr with rfl | rfl
    · exact fr4 p hp
    · exact Nat.ne_of_lt (Ltl p (by simp [hp]))) ?_
  cell_call
  case kp =>
    k_extra "sub"
  rintro r P5 h' tk6 hP F9 N9 fr
  rcases hP with ⟨_, rfl, hW5⟩ | ⟨hno, _⟩
  case inr => exact absurd ⟨by decide, by decide⟩ hno
  rw [fw4 hU] at hW5
  generalize tk + 1 + 1 = tc at hW5
  have frp : ∀ p ∈ P5, p.1 ≠ pl := fun p hp => fr p hp (pl, _) (List.mem_cons_self ..)
  have frt : ∀ p ∈ P5, p.1 ≠ tl := fun p hp => fr p hp (tl, _) (List.mem_cons_of_mem _ (List.mem_singleton.mpr rfl))
  have ne5 : NeA pl tl := Nat.ne_of_lt (Ltl (pl, _) (List.mem_cons_self ..))
  have own5 : OwnOff P5 [pl, tl] := fun r hr y hy => by
    simp only [List.mem_cons, List.not_mem_nil, or_false] at hy
    rcases hy with rfl | rfl
    · first | exact frp r hr | exact (frp r hr).symm
    · first | exact frt r hr | exact (frt r hr).symm
  replace N9 := kst_newsOf (l' := (pl, listOf #[.bool true, .bool false, .bool true] 0) :: (tl, listOf #[.str (Str.ofString "a") ta] 0) :: P5) N9 (by
    k_extra "sub")
  clear hq1 hq2 hW4 N8 F8 fr Ltl fr4
  obtain ⟨qd1, T9, t91, t92, u9, a91, a92, a93, a94, hq1, hq2⟩ := wf_obj hW5
  k_steps
  unfold Hold
  rename_i H8 F8 N8
  refine' con_pre (W := P5) (R := [(pl, listOf (#[Value.bool true, Value.bool false, Value.bool true].push (Value.bool true)) (0 + 1)), (tl, listOf #[.str (Str.ofString "a") ta] 0)]) (wfTakeA w q _ P5 (by simp [fw]) (by simp [fw]) hW5) ?k1 ?k2 ?k3 ?k4 ?k5 ?kK ?kd ?ku ?kp (fun p hp r hr => by
    simp only [List.mem_cons, List.not_mem_nil, or_false] at hr
    rcases hr with rfl | rfl
    · exact own5 p hp pl (by simp)
    · exact own5 p hp tl (by simp)) ?_
  cell_call
  case kp =>
    k_extra "sub"
  rintro r post h' tk7 hP F9 N9 fr
  obtain ⟨y6, tk8, ts6, P6, rfl, rfl, hW6⟩ := fwT0 hP (by (first | lia | omega)) (by (first | lia | omega))
  have own6 : OwnOff P6 [pl, tl] := fun r hr y hy => by
    simp only [List.mem_cons, List.not_mem_nil, or_false] at hy
    rcases hy with h | h <;> rw [h]
    · exact fr r (List.mem_cons_of_mem _ hr) (pl, listOf (#[Value.bool true, Value.bool false, Value.bool true].push (Value.bool true)) (0 + 1)) (by simp)
    · exact fr r (List.mem_cons_of_mem _ hr) (tl, listOf #[.str (Str.ofString "a") ta] 0) (by simp)
  have ny6 : y6 ≠ pl := fr (y6, _) (List.mem_cons_self ..) (pl, listOf (#[Value.bool true, Value.bool false, Value.bool true].push (Value.bool true)) (0 + 1)) (by simp)
  replace N9 := kst_newsOf (l' := (pl, listOf (#[Value.bool true, Value.bool false, Value.bool true].push (Value.bool true)) (0 + 1)) :: (tl, listOf #[.str (Str.ofString "a") ta] 0) :: (y6, tupOf #[.int 0 tk8, .int 3 ts6, .str (Str.ofString "c") tc] 0) :: P6) N9 (by
    k_extra "sub")
  clear hq1 hq2 hW5 N8 F8 fr
  obtain ⟨qd1, T9, t91, t92, u9, a91, a92, a93, a94, hq1, hq2⟩ := wf_obj hW6
  k_steps
  unfold Hold
  dsimp only
  rename_i F8 N8
  refine' con_pre (W := P6) (R := [(pl, listOf (#[Value.bool true, Value.bool false, Value.bool true].push (Value.bool true)) (0 + 1)), (tl, listOf #[.str (Str.ofString "a") ta] 0)]) (wfTakeA w q _ P6 (by simp [fw]) (by simp [fw]) hW6) ?k1 ?k2 ?k3 ?k4 ?k5 ?kK ?kd ?ku ?kp (fun p hp r hr => by
    simp only [List.mem_cons, List.not_mem_nil, or_false] at hr
    rcases hr with rfl | rfl
    · exact own6 p hp pl (by simp)
    · exact own6 p hp tl (by simp)) ?_
  cell_call
  case kp =>
    k_extra "sub"
  rintro r post h' tk9 hP F9 N9 fr
  obtain ⟨y7, tk10, ts7, P7, rfl, rfl, hW7⟩ := fwT1 hP (by (first | lia | omega))
  have own7 : OwnOff P7 [pl, tl] := fun r hr y hy => by
    simp only [List.mem_cons, List.not_mem_nil, or_false] at hy
    rcases hy with h | h <;> rw [h]
    · exact fr r (List.mem_cons_of_mem _ hr) (pl, listOf (#[Value.bool true, Value.bool false, Value.bool true].push (Value.bool true)) (0 + 1)) (by simp)
    · exact fr r (List.mem_cons_of_mem _ hr) (tl, listOf #[.str (Str.ofString "a") ta] 0) (by simp)
  replace N9 := kst_newsOf (l' := (pl, listOf (#[Value.bool true, Value.bool false, Value.bool true].push (Value.bool true)) (0 + 1)) :: (tl, listOf #[.str (Str.ofString "a") ta] 0) :: (y7, tupOf #[.int 1 tk10, .int 20 ts7, .str (Str.ofString "b") tb] 0) :: P7) N9 (by
    k_extra "sub")
  clear hq1 hq2 hW6 N8 F8 fr
  obtain ⟨qd1, T9, t91, t92, u9, a91, a92, a93, a94, hq1, hq2⟩ := wf_obj hW7
  k_steps
  unfold Hold
  dsimp only
  rename_i F8 N8
  refine' con_pre (W := P7) (R := [(pl, listOf (#[Value.bool true, Value.bool false, Value.bool true].push (Value.bool true)) (0 + 1)), (tl, listOf #[.str (Str.ofString "a") ta] 0)]) (wfTakeA w q _ P7 (by simp [fw]) (by simp [fw]) hW7) ?k1 ?k2 ?k3 ?k4 ?k5 ?kK ?kd ?ku ?kp (fun p hp r hr => by
    simp only [List.mem_cons, List.not_mem_nil, or_false] at hr
    rcases hr with rfl | rfl
    · exact own7 p hp pl (by simp)
    · exact own7 p hp tl (by simp)) ?_
  cell_call
  case kp =>
    k_extra "sub"
  rintro r post h' tk11 hP F9 N9 fr
  obtain ⟨rfl, hW8⟩ := fwT2 hP
  replace N9 := kst_newsOf (l' := [(pl, listOf (#[Value.bool true, Value.bool false, Value.bool true].push (Value.bool true)) (0 + 1)), (tl, listOf #[.str (Str.ofString "a") ta] 0)]) N9 (fun p hp => List.mem_append_right _ hp)
  clear hq1 hq2 hW7 N8 F8 fr
  k_steps
  exact con_end hret (by assumption) (by assumption) (by assumption) (by assumption) (by assumption) [] (fun p hp => (List.not_mem_nil hp).elim) ⟨rfl, rfl⟩
end
end
example : True := by
  k_with_none
  k_with "call ref" => (k_here; k_dflt (k_extra "con"))
  k_with "binaryOp FloorDiv int int" => (k_here; k_dflt (refine floordiv_int (by k_dflt (first | lia | omega)) ?_ (Or.inl (PyProof.noPylong_small (by k_dflt (first | lia | omega))))))
  k_with "subscriptTail Name Constant ref int" => (k_here; (with_reducible show wpAny _ _ (subscriptTail _ _ (Value.ref _) (Value.int _ _)) _ _ _); k_dflt (first | (kim_at) | (with_unfolding_all refine' itm_led ?z9N ?z9m ?z9a ?z9b ?z9x ?_ ?z9hs ?z9hg; (case z9N => k_asm); (case z9m => k_mem); (case z9a => decide); (case z9b => decide); (case z9x => first | assumption | rfl); (case z9hs => with_unfolding_all rfl); (case z9hg => intro _; with_unfolding_all rfl); k_whole) | (with_unfolding_all refine' tup_led ?z9N ?z9m ?z9a ?z9b ?z9j ?z9x ?_ ?z9hs ?z9hg; (case z9N => k_asm); (case z9m => k_mem); (case z9a => decide); (case z9b => decide); (case z9j => rfl); (case z9x => rfl); (case z9hs => with_unfolding_all rfl); (case z9hg => intro _; with_unfolding_all rfl); k_whole)))
  k_with "subscriptTail Name Name ref int" => (k_here; (with_reducible show wpAny _ _ (subscriptTail _ _ (Value.ref _) (Value.int _ _)) _ _ _); (with_unfolding_all refine' itm_led ?z9N ?z9m ?z9a ?z9b ?z9x ?_ ?z9hs ?z9hg; (case z9N => k_asm); (case z9m => k_mem); (case z9a => first | assumption | k_dflt (first | lia | omega)); (case z9b => k_dflt (first | lia | omega)); (case z9x => first | assumption | exact List.getElem?_set_self (by k_dflt (first | lia | omega))); (case z9hs => with_unfolding_all rfl); (case z9hg => intro _; with_unfolding_all rfl); k_whole))
  k_with "subscriptTail Name Subscript ref int" => (k_here; (with_reducible show wpAny _ _ (subscriptTail _ _ (Value.ref _) (Value.int _ _)) _ _ _); (with_unfolding_all refine' itm_led ?z9N ?z9m ?z9a ?z9b ?z9x ?_ ?z9hs ?z9hg; (case z9N => k_asm); (case z9m => k_mem); (case z9a => first | assumption | k_dflt (first | lia | omega)); (case z9b => k_dflt (first | lia | omega)); (case z9x => first | assumption | exact List.getElem?_set_self (by k_dflt (first | lia | omega))); (case z9hs => with_unfolding_all rfl); (case z9hg => intro _; with_unfolding_all rfl); k_whole))
  k_with "subscriptTail Attribute" => (k_here; k_dflt (refine kba_turn (value' := PySem.Expr.Name (PySem.Str.ofString "_") ⟨0, 0, 0, 0⟩) (fun _ => rfl) ?_))
  k_with "subscriptTail Subscript" => (k_here; k_dflt (refine kba_turn (value' := PySem.Expr.Name (PySem.Str.ofString "_") ⟨0, 0, 0, 0⟩) (fun _ => rfl) ?_))
  k_with "subscriptTail Call" => (k_here; k_dflt (refine kba_turn (value' := PySem.Expr.Name (PySem.Str.ofString "_") ⟨0, 0, 0, 0⟩) (fun _ => rfl) ?_))
  k_with "call builtin:len" => (k_here; (with_reducible show wpAny _ _ (call (Value.builtin "len") [Value.ref _]) _ _ _); k_dflt (refine' len_led ?z9k1 ?z9k2 ?z9k3 ?_; (case z9k1 => k_asm); (case z9k2 => k_mem); (case z9k3 => first | assumption | k_dflt (first | lia | omega) | (simp only [List.length_cons, List.length_nil]; k_dflt (first | lia | omega))); k_whole))
  k_with "compareOp Eq ref ref" => (k_here; (with_reducible show wpAny _ _ (compareOp CmpOp.Eq (Value.ref _) (Value.ref _)) _ _ _); k_dflt (refine' eq_nil_led ?z9k1 ?z9k2 ?z9k3 ?z9k4 ?_; (case z9k1 => k_asm); (case z9k2 => k_mem); (case z9k3 => k_mem); (case z9k4 => ktr_units); k_whole))
  k_with "compareOp NotEq ref ref" => (k_here; (with_reducible show wpAny _ _ (compareOp CmpOp.NotEq (Value.ref _) (Value.ref _)) _ _ _); k_dflt (refine' ne_nil_led ?z9k1 ?z9k2 ?z9k3 ?z9k4 ?_; (case z9k1 => k_asm); (case z9k2 => k_mem); (case z9k3 => k_mem); (case z9k4 => ktr_units); k_whole))
  k_with "call builtin:list.pop" => (k_here; (with_reducible show wpAny _ _ (call (Value.builtin _) [Value.ref _, Value.int _ _]) _ _ _); k_dflt (refine' pop0_led ?z9F ?z9N ?z9U ?z9z ?_; (case z9F => k_asm); (case z9N => k_asm); (case z9U => k_upd); (case z9z => first | assumption | k_dflt (first | lia | omega)); k_whole); cell_end 21 0 0; (try k_sweep))
  k_with "call builtin:sum" => (k_here; (with_reducible show wpAny _ _ (call (Value.builtin "sum") [Value.ref _]) _ _ _); k_dflt (refine' sum_led ?z9k0 ?z9k1 ?z9k2 ?z9k3 ?z9k4 ?_; (case z9k0 => with_unfolding_all rfl); (case z9k1 => k_asm); (case z9k2 => k_asm); (case z9k3 => k_mem); (case z9k4 => assumption); k_whole); cell_end 22 0 0; (try k_sweep))
  k_with "eval ListComp" => (k_here; (with_reducible show wpAny _ _ (eval (Expr.ListComp _ [Comprehension.mk _ _ [] _] _ _) _) _ _ _); k_dflt (refine LCg.ListComp_U (F₀ := by k_asm) (by with_unfolding_all rfl) (by decide) (by rfl) (by decide) (by rfl) ?_))
  k_with "eval ListComp" => (k_here; (with_reducible show wpAny _ _ (eval (Expr.ListComp _ [Comprehension.mk _ _ [_] _] _ _) _) _ _ _); k_dflt (refine LCt.ListComp_T (F₀ := by k_asm) (by with_unfolding_all rfl) (by decide) (by rfl) (by decide) (by rfl) ?_))
  k_with "CompSrc" => (k_here; k_dflt (refine' LCg.CompSrc.ledger ?z9kh ?z9kF ?z9kN ?z9km ?_ ?_; (case z9kh => rfl); (case z9kF => k_asm); (case z9kN => k_asm); (case z9km => k_mem); rotate_left; cell_end 24 0 0; (try dsimp only); k_extra "rest"))
  k_with "call builtin:max" => (k_here; (with_reducible show wpAny _ _ (call (Value.builtin "max") [Value.int _ _, Value.int _ _]) _ _ _); k_dflt (refine' max2_led ?z9k0 ?z9k1 ?z9k2 ?_; (case z9k0 => with_unfolding_all rfl); (case z9k1 => k_asm); (case z9k2 => k_asm); k_whole); cell_end 22 0 0; (try k_sweep))
  k_with "call builtin:min" => (k_here; (with_reducible show wpAny _ _ (call (Value.builtin "min") [Value.int _ _, Value.int _ _]) _ _ _); k_dflt (refine' min2_led ?z9k0 ?z9k1 ?z9k2 ?_; (case z9k0 => with_unfolding_all rfl); (case z9k1 => k_asm); (case z9k2 => k_asm); k_whole); cell_end 22 0 0; (try k_sweep))
  k_with "binaryOp Mult ref int" => (k_here; (with_reducible show wpAny _ _ (binaryOp Operator.Mult (Value.ref _) (Value.int _ _)) _ _ _); k_dflt (refine' mulrep_led ?z9k1 ?z9k2 ?z9k3 ?z9k4 ?z9k5 ?_; (case z9k1 => k_asm); (case z9k2 => k_asm); (case z9k3 => k_mem); (case z9k4 => k_dflt (first | lia | omega)); (case z9k5 => k_dflt (first | lia | omega)); k_whole); cell_end 23 0 0; (try k_sweep))
  k_with "setItem ref int" => (k_here; k_dflt (refine' set_led ?z9k1 ?z9k2 ?z9k3 ?z9k4 ?z9k5 ?z9k6 ?_; (case z9k1 => k_asm); (case z9k2 => k_asm); (case z9k3 => k_upd); (case z9k4 => first | assumption | k_dflt (first | lia | omega)); (case z9k5 => first | assumption | k_dflt (first | lia | omega)); (case z9k6 => k_dflt (first | lia | omega)); k_whole); cell_end 21 0 0; (try k_sweep))
  k_with "newList" => (k_here; k_dflt (refine' newList_K ?z9k1 ?z9k2 ?_; (case z9k1 => k_asm); (case z9k2 => k_asm); k_whole); cell_end 23 0 0; (try k_sweep))
  k_with "newTuple" => (k_here; k_dflt (refine' kup_newTuple ?z9k1 ?z9k2 ?_ ?z9kz; (case z9k1 => k_asm); (case z9k2 => k_asm); (case z9kz => exact Nat.le_of_ble_eq_true rfl); k_whole); cell_end 23 0 0; (try k_sweep))
  k_with "call builtin:list.append" => (k_here; (with_reducible show wpAny _ _ (call (Value.builtin _) [Value.ref _, _]) _ _ _); k_dflt (refine' append_led ?z9k1 ?z9k2 ?z9k3 ?z9k4 ?_; (case z9k1 => k_asm); (case z9k2 => k_asm); (case z9k3 => k_upd); (case z9k4 => first | assumption | k_dflt (first | lia | omega)); k_whole); cell_end 21 0 0; (try k_sweep))
  k_with "exec Assign cons ListComp" => (k_here; (with_reducible show wpAny _ _ (exec (Stmt.Assign [_] (Expr.ListComp _ [Comprehension.mk _ _ [_] _] _ _) _) _) _ _ _); k_dflt (refine LCt.Assign_ListComp_T (F₀ := by k_asm) (by rfl) (by with_unfolding_all rfl) (by with_unfolding_all rfl) (by decide) (by rfl) (by decide) (by rfl) (by rfl) (by rfl) ?_))
  k_with "exec Assign cons ListComp" => (k_here; (with_reducible show wpAny _ _ (exec (Stmt.Assign [_] (Expr.ListComp _ [Comprehension.mk _ _ [] _] _ _) _) _) _ _ _); k_dflt (refine LCg.Assign_ListComp_U (F₀ := by k_asm) (by rfl) (by with_unfolding_all rfl) (by with_unfolding_all rfl) (by decide) (by rfl) (by decide) (by rfl) (by rfl) (by rfl) ?_))
  k_with "CompSrcT" => (k_here; k_dflt (refine LCt.CompSrcT.range (by rfl) (by k_asm) (by k_asm) (by assumption) (small_one (by k_dflt (first | lia | omega)) (by k_dflt (first | lia | omega)) (by k_dflt (first | lia | omega)) (by k_dflt (first | lia | omega))) (rangeSize_nat _ _) ?_ ?_; rotate_left; cell_end 24 0 0; (try dsimp only); k_extra "restT"))
  k_with "binaryOp Add ref ref" => (k_here; (with_reducible show wpAny _ _ (binaryOp _ (Value.ref _) (Value.ref _)) _ _ _); k_dflt (refine' addT_led ?z9k1 ?z9k2 ?z9k3 ?z9k4 ?z9k5 ?z9k6 ?z9k7 ?z9k8 ?_; (case z9k1 => k_asm); (case z9k2 => k_asm); (case z9k3 => k_mem); (case z9k4 => k_mem); (case z9k5 => exact rfl); (case z9k6 => exact List.cons_ne_nil _ _); (case z9k7 => exact List.cons_ne_nil _ _); (case z9k8 => exact Nat.le_of_ble_eq_true rfl); k_whole); cell_end 23 0 0; (try k_sweep))
  k_with "call builtin:min" => (k_here; (with_reducible show wpAny _ _ (call (Value.builtin "min") [Value.ref _]) _ _ _); k_dflt (k_extra "min"))
  k_with "CompSrcT" => (k_here; k_dflt (refine' LCt.CompSrcT.ledger ?z9kh ?z9kF ?z9kN ?z9km ?_ ?_; (case z9kh => rfl); (case z9kF => k_asm); (case z9kN => k_asm); (case z9km => k_mem); rotate_left; cell_end 24 0 0; (try dsimp only); k_extra "restT"))
  k_with "subscriptTail Name Constant ref str" => (k_here; (with_reducible show wpAny _ _ (subscriptTail _ _ (Value.ref _) (Value.str _ _)) _ _ _); k_dflt (refine' kda_item (knd := PySem.strKind _ _) ?z9N ?z9hp ?z9hd (strKind_is _ _ _ _) ?z9hl ?_ ?z9hs ?z9hg; (case z9N => k_asm); (case z9hp => k_mem); (case z9hd => assumption); (case z9hl => rfl); (case z9hs => with_unfolding_all rfl); (case z9hg => intro _; with_unfolding_all rfl)); k_whole)
  k_with "setItem ref str" => (k_here; k_dflt (refine' kda_set (knd := PySem.strKind _ _) ?z9F ?z9N ?z9U ?z9d (strKind_is _ _ _ _) ?z9z ?_; (case z9F => k_asm); (case z9N => k_asm); (case z9U => k_updF); (case z9d => assumption); (case z9z => rw [sizeLine_eq]; exact Nat.le_of_ble_eq_true (by with_unfolding_all rfl))); cell_end 25 0 0)
  k_with "exec For Tuple Call" => (k_here; k_dflt (refine' For_turns ?z9lF ?_; (case z9lF => k_asm); k_whole))
  k_with "call type:enumerate" => (k_here; k_dflt (refine' ktu_enum ?z9hh ?z9F ?z9N ?z9hm ?z9hc ?z9hd ?z9hx ?_; (case z9hh => rfl); (case z9F => k_asm); (case z9N => k_asm); (case z9hm => k_mem); (case z9hc => rfl); (case z9hd => rfl); (case z9hx => rfl); k_extra "items"))
  k_with "compareOp NotEq ref ref" => (k_here; (with_reducible show wpAny _ _ (compareOp CmpOp.NotEq (Value.ref _) (Value.ref _)) _ _ _); k_dflt (first | (refine' ne_nil_led ?z9k1 ?z9k2 ?z9k3 ?z9k4 ?_; (case z9k1 => k_asm); (case z9k2 => k_mem); (case z9k3 => k_mem); (case z9k4 => ktr_units)) | (refine' ne_tup2 ?z9k1 ?z9k2 ?z9k3 ?z9k4 ?_; (case z9k1 => k_asm); (case z9k2 => k_mem); (case z9k3 => k_mem); (case z9k4 => ktr_units)) | (refine' ne_tup3 ?z9k1 ?z9k2 ?z9k3 ?z9k4 ?_; (case z9k1 => k_asm); (case z9k2 => k_mem); (case z9k3 => k_mem); (case z9k4 => ktr_units))); k_whole)
  k_with "exec For Name Name cons nil" => (k_here; k_dflt (refine' For_turns ?z9lF ?_; (case z9lF => k_asm); k_whole))
  k_with "exec For Name Call cons nil" => (k_here; k_dflt (refine' For_turns ?z9lF ?_; (case z9lF => k_asm); k_whole))
  k_with "pyIter ref" => (k_here; (with_reducible show wpAny _ _ (pyIter (Value.ref _)) (fun it s₂ => TurnsAt _ _ _ _ _ _ _ _ _ it s₂) _ _); k_dflt (first | (refine' iter_rangeTurns ?z9hh ?z9hr ?z9hs ?z9hn ?z9F ?z9N ?_; (case z9hh => rfl); (case z9hr => assumption); (case z9hs => first | decide | exact small_one (by k_dflt (first | lia | omega)) (by k_dflt (first | lia | omega)) (by k_dflt (first | lia | omega)) (by k_dflt (first | lia | omega))); (case z9hn => exact rangeSize_nat _ _); (case z9F => k_asm); (case z9N => k_asm); k_extra "items") | (refine' iter_listTurns ?z9hh ?z9F ?z9N ?z9hm ?z9hc ?z9hd ?_; (case z9hh => rfl); (case z9F => k_asm); (case z9N => k_asm); (case z9hm => k_mem); (case z9hc => rfl); (case z9hd => rfl); k_extra "items")))
  k_with "exec While Compare cons nil" => (k_here; k_dflt (k_extra "while"))
  k_with "exec While Constant cons nil" => (k_here; k_dflt (k_extra "while"))
  k_with "UnrEndW" => refine hold ?_
  k_with "eval ListComp" => (k_here; (with_reducible show wpAny _ _ (eval (Expr.ListComp _ [Comprehension.mk (Expr.Tuple _ _ _) _ [] _] _ _) _) _ _ _); k_dflt (refine LCp.ListComp_P (F₀ := by k_asm) (by with_unfolding_all rfl) (by decide) (by rfl) (by decide) (by rfl) (by rfl) (by decide) ?_))
  k_with "SrcLP" => (k_here; k_dflt (refine' LCp.SrcLP.ledger ?z9kh ?z9kF ?z9kN ?z9km ?_ ?_; (case z9kh => rfl); (case z9kF => k_asm); (case z9kN => k_asm); (case z9km => k_mem); rotate_left; cell_end 24 0 0; (try dsimp only); k_extra "restP"))
  k_with "exec Raise some none" => (k_here; k_dflt (k_extra "raise"))
  k_with "CompSrc" => (k_here; k_dflt (refine LCg.CompSrc.range (by rfl) (by k_asm) (by k_asm) (by assumption) (small_one (by k_dflt (first | lia | omega)) (by k_dflt (first | lia | omega)) (by k_dflt (first | lia | omega)) (by k_dflt (first | lia | omega))) (rangeSize_nat _ _) ?_ ?_; rotate_left; cell_end 24 0 0; (try dsimp only); k_extra "rest"))
  k_with "subscriptTail List Call ref int" => (k_here; k_dflt (k_extra "menu"))
  k_with "exec For Tuple Subscript cons nil" => (k_here; k_dflt (refine' For_turns ?z9lF ?_; (case z9lF => k_asm); k_whole))
  k_with "subscriptTail Name Slice ref ref" => (k_here; (with_reducible show wpAny _ _ (subscriptTail _ (PySem.Expr.Slice (some _) none none _) (Value.ref _) (Value.ref _)) _ _ _); k_dflt (refine' slice_led ?z9F ?z9N ?z9l ?z9x ?z9z ?_ ?z9s ?z9t; (case z9F => k_asm); (case z9N => k_asm); (case z9l => k_mem); (case z9x => k_dflt (first | lia | omega)); (case z9z => first | assumption | k_dflt (first | lia | omega)); (case z9s => with_unfolding_all rfl); (case z9t => kmk_pure)); cell_end 23 0 0; (try k_sweep))
  k_with "k_mem" => (first | exact List.Mem.head _ | (refine' List.Mem.tail _ ?_; k_mem) | assumption)
  k_with "ask2" => ((case kA => exact rfl); (case kF => exact rfl); (case kK => assumption); (case k1 => k_asm); (case k2 => k_asm); (case k3 => k_asm); (case k4 => k_asm); (case k5 => k_asm); (case k6 => k_is); (case k7 => k_is); (case k8 => ktr_room); (case k9 => first | exact BindsTo.of_eq rfl | exact binds_K (by k_in) rfl (by k_is) rfl rfl rfl); (case c5 => decide); (case kB => exact locs rfl); (case c2 => exact rfl); (case c3 => exact rfl); (case c4 => exact rfl); k_whole)
  k_with "askC2" => ((case kA => exact rfl); (case kF => exact rfl); (case kK => assumption); (case k1 => k_asm); (case k2 => k_asm); (case k3 => k_asm); (case k4 => k_asm); (case k5 => k_asm); (case k6 => k_is); (case k7 => k_is); (case k8 => ktr_room); (case k9 => first | exact BindsTo.of_eq rfl | exact binds_K (by k_in) rfl (by k_is) rfl rfl rfl); (case kB => exact rfl); (case kD => decide +kernel); (case c2 => exact rfl); (case c3 => exact rfl); (case c4 => exact rfl); k_whole)
  k_with "cell_call" => ((case k1 => k_asm); (case k2 => k_asm); (case k3 => k_asm); (case k4 => k_asm); (case k5 => k_asm); (case kK => first | exact rfl | assumption); (case kd => ktr_room); (case ku => ktr_units))
  k_with "k_all" => (first | exact List.forall_mem_nil _ | (refine List.forall_mem_cons.mpr ⟨?_, ?_⟩; (focus k_ne); k_all) | exact OwnOff.ne (by with_reducible assumption) (by k_memK) | exact fresh_ne (by with_reducible assumption) (by intro p hp; k_mem))
  k_with "k_ne" => (first | ((try dsimp only); first | (refine' NeA.ne ?z5h; (case z5h => with_reducible assumption)) | (refine' NeA.en ?z5h; (case z5h => with_reducible assumption)) | (refine' fresh1 ?z5h ?z5m; (case z5h => with_reducible assumption); (case z5m => k_mem)) | (refine' fresh2 ?z5h ?z5m; (case z5h => with_reducible assumption); (case z5m => k_mem))) | (refine neN ?_; (try dsimp only); k_dflt (first | lia | omega)))
  k_with "lcg_sub" => (first | exact List.forall_mem_nil _ | (refine List.forall_mem_cons.mpr ⟨?_, ?_⟩; (focus k_mem); lcg_sub) | (intro p hp; k_mem))
  k_with "ke_reads" => (first | exact List.forall_mem_nil _ | (refine List.forall_mem_cons.mpr ⟨?_, ?_⟩; (focus k_all); ke_reads))
  k_with "cell_step" => (cell_call; (case kp => lcg_src); (case ko => ke_reads))
  k_with "k_in" => (first | k_in_fast | with_reducible assumption | (with_reducible (refine' in_fr ?z4F ?z4X; (case z4F => assumption); (case z4X => assumption))))
  k_with "ends" => ((case F1 => k_asm); (case N1 => k_asm); (case s1 => first | exact fun _ hp => hp | exact fun _ hp => List.Mem.tail _ hp | exact fun _ hp => List.Mem.tail _ (List.Mem.tail _ hp) | lcg_sub))
  k_with "ne" => (first | infer_instance | exact neWorld | exact neShared | exact neAround | exact neParams | exact neItm | exact ⟨default⟩)
  k_with "ep" => (refine @all_epA _ (by k_extra "ne") _ ?_)
  k_with "epq" => (clear zq)
  k_with "epx" => (have zk := @epE_spec _ (by k_extra "ne") _ zh; clear zh)
  k_with "epe" => (replace zk := exE zk)
  k_with "epa" => (have zj := And.left zh; have zk := And.right zh; clear zh)
  k_with "epj" => (clear zj)
  k_with "epk" => (clear zk)
  k_with "cx" => (refine @all_epA _ neCx _ ?_; generalize epA _ _ = zc; refine exI ?_; generalize Cx.p zc = p, Cx.loose zc = loose, Cx.mean zc = mean, Cx.mg zc = mg, Cx.mb zc = mb, Cx.dp zc = dp, Cx.un zc = un, Cx.gd zc = gd, Cx.cn zc = cn, Cx.cs zc = cs, Cx.a zc = a, Cx.ccd zc = ccd, Cx.cl zc = cl, Cx.outer zc = outer, Cx.A₀ zc = A₀, Cx.base zc = base, Cx.h₀ zc = h₀, Cx.L zc = L, Cx.m zc = m, Cx.s zc = s, Cx.Q zc = Q, Cx.E zc = E; clear zc)
  k_with "cxa" => (refine @all_epA _ neCx _ ?_; generalize epA _ _ = zc; refine exI ?_; generalize Cx.p zc = p, Cx.loose zc = loose, Cx.mean zc = mean, Cx.mg zc = mg, Cx.mb zc = mb, Cx.dp zc = dp, Cx.un zc = un, Cx.gd zc = gd, Cx.cn zc = cn, Cx.cs zc = cs, Cx.a zc = ac, Cx.ccd zc = ccd, Cx.cl zc = cl, Cx.outer zc = outer, Cx.A₀ zc = A₀, Cx.base zc = base, Cx.h₀ zc = h₀, Cx.L zc = L, Cx.m zc = m, Cx.s zc = s, Cx.Q zc = Q, Cx.E zc = E; clear zc)
  k_with "i2" => (refine all_2 ?_ ?_; (focus (repeat' (first | exact neWorld | exact neShared | exact neAround | exact neParams | exact neItm | refine nePr ?_ ?_ | infer_instance | exact ⟨default⟩))); generalize ep2 _ _ = zq; refine ex2 ?_)
  k_with "i3" => (refine all_3 ?_ ?_; (focus (repeat' (first | exact neWorld | exact neShared | exact neAround | exact neParams | exact neItm | refine nePr ?_ ?_ | infer_instance | exact ⟨default⟩))); generalize ep3 _ _ = zq; refine ex3 ?_)
  k_with "i4" => (refine all_4 ?_ ?_; (focus (repeat' (first | exact neWorld | exact neShared | exact neAround | exact neParams | exact neItm | refine nePr ?_ ?_ | infer_instance | exact ⟨default⟩))); generalize ep4 _ _ = zq; refine ex4 ?_)
  k_with "i5" => (refine all_5 ?_ ?_; (focus (repeat' (first | exact neWorld | exact neShared | exact neAround | exact neParams | exact neItm | refine nePr ?_ ?_ | infer_instance | exact ⟨default⟩))); generalize ep5 _ _ = zq; refine ex5 ?_)
  k_with "i6" => (refine all_6 ?_ ?_; (focus (repeat' (first | exact neWorld | exact neShared | exact neAround | exact neParams | exact neItm | refine nePr ?_ ?_ | infer_instance | exact ⟨default⟩))); generalize ep6 _ _ = zq; refine ex6 ?_)
  k_with "i7" => (refine all_7 ?_ ?_; (focus (repeat' (first | exact neWorld | exact neShared | exact neAround | exact neParams | exact neItm | refine nePr ?_ ?_ | infer_instance | exact ⟨default⟩))); generalize ep7 _ _ = zq; refine ex7 ?_)
  k_with "i8" => (refine all_8 ?_ ?_; (focus (repeat' (first | exact neWorld | exact neShared | exact neAround | exact neParams | exact neItm | refine nePr ?_ ?_ | infer_instance | exact ⟨default⟩))); generalize ep8 _ _ = zq; refine ex8 ?_)
  k_with "eph" => (clear zh)
  k_with "sub" => (first | exact sub_nil | (refine sub_cons ?_ ?_; (focus (k_extra "mem")); k_extra "sub") | (refine sub_app ?_ ?_; (focus (k_extra "sub")); k_extra "sub") | k_extra "incl")
  k_with "mem" => (with_reducible (first | exact List.mem_cons_self .. | (refine List.mem_cons_of_mem _ ?_; k_extra "mem") | (refine List.mem_append_left _ ?_; k_extra "mem") | (refine List.mem_append_right _ ?_; k_extra "mem") | assumption))
  k_with "incl" => (with_reducible (first | exact fun _ h => h | (refine sub_tail ?_; k_extra "incl") | (refine sub_left ?_; k_extra "incl") | (refine sub_right ?_; k_extra "incl")))
  k_with "room" => ((try dsimp only [depth_under_make, depth_under_kw, depth_in1, depth_deeper, depth_caller, ktrTop]); first | exact room_lt0 (by assumption) | exact room_lt (by assumption) (by decide) | exact room_lt2 (by assumption) (by decide) | exact room_lt3 (by assumption) (by decide))
  k_with "units" => ((try dsimp only [units_in1, units_deeper, Around.mark_units, units_caller, ktrTop]); first | exact room_lt0 (by assumption) | exact room_lt (by assumption) (by decide) | exact room_lt2 (by assumption) (by decide) | exact room_lt3 (by assumption) (by decide))
  trivial
-- Exc
example : True := by
  w_top off
  trivial
section
section
variable {prog : Program} {w : World} {A : Around} {E : Value → Shared → Prop} {R : Result → Shared → Prop} {h : Heap} {g : Array GenState} {d : Drawn} {t : Nat} {os : OsState} {K : Frag}
variable {nm q : Str} {C N : Addr} {bs bm : List Value} {hdct : Bool} {sn : List Str} {sub : List Value} {ab : Bool} {col : Option Bool} {dd : Option Addr} {k0 k1 k2 k3 k5 : Option Value}
noncomputable abbrev excT (vs : List Value) : Obj := { cls := .type "tuple", data := .seq vs.toArray }
noncomputable abbrev excO (C tp : Addr) : Obj := { cls := .ref C, data := .fields #[.ref tp, .none, .none, .none, .bool false, .none] }
theorem new_own {rest : List Value} (hC : h.get? C = some (excClassObj nm q C N bs bm hdct sn sub ab col dd k0 k1 k2 k3 k5 "Exception.__new__"))
    (hcB : (Value.ref C :: bm).contains (.type "Exception") = true) (hcA : (Value.ref C :: bm).contains (.type "AttributeError") = false) (hcN : (Value.ref C :: bm).contains (.type "NameError") = false)
    (hq : R (.ok (.ret (.ref (h.objs.size + 1)))) ⟨(h.push (excT rest)).push (excO C h.objs.size), g, d, t, os⟩) (hrest : rest.length ≤ sizeLine := by size_fits) :
    codeAny (model prog w) A (.builtin "Exception.__new__" ⟨.ref C :: rest, []⟩) R ⟨h, g, d, t, os⟩ := by
  have F := PySem.F.excBase_Exception
  have hends := F.ends
  refine codeAny_builtinAt F.entry ?_
  unfold Builtin.«BaseException.__new__»
  refine PySem.wpAt_bind ?_
  show PySem.wpAt _ _ _ (stack >>= _) _ _ _
  refine PySem.wpAt_bind (PySem.wpAt_stack fun p below => PySem.wpAt_of_wpAny ?_)
  wp_walk
  refine PySem.wpAt_of_wpAny ?_
  rw [F.owner]
  repeat (first | with_reducible refine wpAny_madeHere_exc F.canon hC ?_ | with_reducible refine wpAny_loadPart_at hC ?_ | (with_reducible refine wpAny_isSubtype_exc hC ?_; first | rw [hcB] | rw [hcA] | rw [hcN]) | wp_step)
  show R _ _
  rw [Heap.size_push]
  exact hq
theorem check_new_own {M : Model} {rest : List Value} {Q : Unit → Shared → Prop} (hC : h.get? C = some (excClassObj nm q C N bs bm hdct sn sub ab col dd k0 k1 k2 k3 k5 "Exception.__new__"))
    (hcB : (Value.ref C :: bm).contains (.type "Exception") = true) (hq : Q () ⟨h, g, d, t, os⟩) : wpAny M A (checkBuiltinCall "Exception.__new__" ⟨.ref C :: rest, []⟩) Q E ⟨h, g, d, t, os⟩ := by
  have F := PySem.F.excBase_Exception
  have hstar := F.noStar
  simp only [checkBuiltinCall, F.newKind, F.newSplit, F.newRow]
  repeat (first | refine wpAny_loadPart_at hC ?_ | (refine wpAny_isSubtype_exc hC ?_; rw [hcB]) | refine wpAny_staticBase_exc hC ?_ | refine wpAny_madeBy_exc hC ?_ | simp only [bne_self_eq_false, Bool.false_eq_true, if_false] | wp_step)
  exact hq
theorem type_call_own {rest : List Value} {fI : Addr} {Q : Fin → Shared → Prop} (X : K.In h)
    (hC : h.get? C = some (excClassObj nm q C N bs bm hdct sn sub ab col dd k0 k1 k2 k3 k5 "Exception.__new__"))
    (hcB : (Value.ref C :: bm).contains (.type "Exception") = true) (hcA : (Value.ref C :: bm).contains (.type "AttributeError") = false) (hcN : (Value.ref C :: bm).contains (.type "NameError") = false)
    (hi : findIn K (.ref C) "__init__" = some (some (.ref fI))) (hf : typeIn K (.ref fI) = some (.type "function"))
    (hq : wpAny (model prog w) A (call (.ref fI) (.ref (h.objs.size + 1) :: rest)) (fun r s' => r = .none ∧ Q (.done (.ret (.ref (h.objs.size + 1)))) s') E ⟨(h.push (excT rest)).push (excO C h.objs.size), g, d, t, os⟩) (hrest : rest.length ≤ sizeLine := by size_fits) :
    wpAny (model prog w) A (Builtin.«type.__call__» ⟨.ref C :: rest, []⟩) Q E ⟨h, g, d, t, os⟩ := by
  have F := PySem.F.excBase_Exception
  repeat (first | with_reducible refine wpAny_loadPart_at hC ?_ | with_reducible refine wpAny_madeBy_exc hC ?_ | wp_step)
  refine codeAny_call_builtin_code (Code.quiet_builtin _ F.quiet) (check_new_own hC hcB ?_)
  refine new_own hC hcB hcA hcN ?_ hrest
  show wpAny _ _ _ _ _ _
  have k : ∀ b o, h.get? b = some o → ((h.push (excT rest)).push (excO C h.objs.size)).get? b = some o := fun b o e => Heap.get?_push_of_some _ (Heap.get?_push_of_some _ e)
  have hC₁ := k _ _ hC
  have X₁ := X.keeps k
  have hget : ((h.push (excT rest)).push (excO C h.objs.size)).get? (h.objs.size + 1) = some (excO C h.objs.size) := by heap_get
  have hcC : (Value.ref C :: bm).contains (.ref C) = true := by simp
  unfold isInstance
  repeat (first | with_reducible refine wpAny_loadPart_at hget ?_ | (with_reducible refine wpAny_isSubtype_exc hC₁ ?_; rw [hcC]) | wp_step)
  show wpAny _ _ (typeLookup (.ref C) _) _ _ _
  refine (looks_findIn X₁ hi).here ?_
  refine wpAny_holding (wpAny_bind ((bind_fn X₁ _ hf).here ?_))
  refine wpAny_bind (wpAny_mono hq (fun r s' hr => ?_) fun _ _ x => x)
  obtain ⟨rfl, hQ⟩ := hr
  wp_walk
  exact hQ
theorem call_own {rest : List Value} {fI : Addr} {Q : Value → Shared → Prop} (X : K.In h)
    (hC : h.get? C = some (excClassObj nm q C N bs bm hdct sn sub ab col dd k0 k1 k2 k3 k5 "Exception.__new__"))
    (hcB : (Value.ref C :: bm).contains (.type "Exception") = true) (hcA : (Value.ref C :: bm).contains (.type "AttributeError") = false) (hcN : (Value.ref C :: bm).contains (.type "NameError") = false)
    (hi : findIn K (.ref C) "__init__" = some (some (.ref fI))) (hf : typeIn K (.ref fI) = some (.type "function"))
    (hq : wpAny (model prog w) (A.under (.builtin "type.__call__" ⟨.ref C :: rest, []⟩)) (call (.ref fI) (.ref (h.objs.size + 1) :: rest)) (fun r s' => r = .none ∧ Q (.ref (h.objs.size + 1)) s') E ⟨(h.push (excT rest)).push (excO C h.objs.size), g, d, t, os⟩) (hrest : rest.length ≤ sizeLine := by size_fits) :
    wpAny (model prog w) A (call (.ref C) rest) Q E ⟨h, g, d, t, os⟩ := by
  have f1 := tc_lookup
  have f2 := tc_bind (.ref C)
  have hT : (⟨h, g, d, t, os⟩ : Shared).TypeIs (.ref C) "type" := ⟨_, hC, rfl⟩
  refine wpAny_call (codeAny_of_tree ?_)
  show wpAny _ _ (callAny (.ref C) _) _ _ _
  repeat (any_goals (first | assumption | with_reducible refine wpAny_loadPart_at hC ?_ | wp_step))
  refine ⟨rfl, ?_⟩
  exact codeAny_call_builtin_at (Code.quiet_builtin _ (by decide +kernel)) entry_typeCall (wpAny_check_type_call_sub hC (type_call_own (hrest := hrest) X hC hcB hcA hcN hi hf hq))
end
noncomputable def bm59 : List Value := [.ref 38, .type "Exception", .type "BaseException", .type "object"]
noncomputable def e59 (K : Frag) : Prop := ∃ nm qn N bs sn sub ab col dd k0 k1 k2 k3 k5, K.lookup 59 = some (excClassObj nm qn 59 N bs bm59 true sn sub ab col dd k0 k1 k2 k3 k5 "Exception.__new__")
theorem exc_obj {K : Frag} {h : Heap} (X : K.In h) (q : e59 K) : ∃ nm qn N bs sn sub ab col dd k0 k1 k2 k3 k5, h.get? 59 = some (excClassObj nm qn 59 N bs bm59 true sn sub ab col dd k0 k1 k2 k3 k5 "Exception.__new__") :=
  q.elim fun nm q => q.elim fun qn q => q.elim fun N q => q.elim fun bs q => q.elim fun sn q => q.elim fun sub q => q.elim fun ab q => q.elim fun col q => q.elim fun dd q => q.elim fun k0 q => q.elim fun k1 q => q.elim fun k2 q => q.elim fun k3 q => q.elim fun k5 q =>
    ⟨nm, qn, N, bs, sn, sub, ab, col, dd, k0, k1, k2, k3, k5, X _ _ q⟩
theorem e59_is (w : World) : e59 (Mine.hd.heap_1 w.params) := ⟨_, _, _, _, _, _, _, _, _, _, _, _, _, _, by with_unfolding_all rfl⟩
noncomputable def RaiseQ (E : Value → Shared → Prop) (v : Value) (s₁ : Shared) : Prop := ∃ e od a0 sl, v = .ref e ∧ (∃ nm qn N bs sn sub ab col dd k0 k1 k2 k3 k5, s₁.heap.get? 59 = some (excClassObj nm qn 59 N bs bm59 true sn sub ab col dd k0 k1 k2 k3 k5 "Exception.__new__")) ∧
      s₁.heap.get? e = some ⟨.ref 59, od, .fields #[a0, .none, .none, .none, .bool false, .none], sl⟩ ∧ E (.ref e) s₁
section
variable {prog : Program} {w : World} {A : Around} {E : Value → Shared → Prop} {s : Shared} {env : Env}
theorem raise_own {M : Model} {x : Sem Value} {Q : Flow → Shared → Prop} (hh : A.handled = none) (h : wpAny M A x (RaiseQ E) E s) : wpAny M A (raiseStmt env (some x) none) Q E s := by
  have hcB : (Value.ref 59 :: bm59).contains (.type "BaseException") = true := by decide
  unfold raiseStmt
  refine wpAny_bind (wpAny_mono h (fun v s₁ h₁ => ?_) fun _ _ x => x)
  obtain ⟨e, od, a0, sl, rfl, ⟨nm, q, N, bs, sn, sub, ab, col, dd, k0, k1, k2, k3, k5, hC⟩, he, hE⟩ := h₁
  obtain ⟨hp, g, d, tk, os⟩ := s₁
  repeat (first | with_reducible refine wpAny_loadPart_at he ?_ | with_reducible refine wpAny_loadPart_at hC ?_ | (with_reducible refine wpAny_isSubtype_exc hC ?_; rw [hcB]) | wp_step)
  exact wpAny_raiseNew_none hh hE
theorem exec_raise_own {x : Str} {np cpos pos : Pos} {args : List PySem.Expr} {Q : Flow → Shared → Prop} (hh : A.handled = none)
    (h : wpAny (model prog w) A (eval (.Call (.Name x np) args [] cpos) env) (RaiseQ E) E s) :
    wpAny (model prog w) A (exec (.Raise (some (.Call (.Name x np) args [] cpos)) none pos) env) Q E s := by
  rw [arm_exec_Raise]
  refine wpAny_bind (wpAny_standAt (raise_own hh ?_))
  refine wpAny_bind (wpAny_mono h (fun v s₃ h₃ => wpAny_bind (wpAny_standAt (wpAny_pure h₃))) fun _ _ x => x)
end
end
-- Exc2
example : True := by
  w_top off
  trivial
section
open Builtin Builtin.ObjectAttr
noncomputable abbrev excAt (t2 : Nat) (dd : Option Addr) : Obj := ⟨.ref 59, dd, .fields #[.ref t2, .none, .none, .none, .bool false, .none], #[]⟩
section
variable {prog : Program} {w : World} {A : Around} {E : Value → Shared → Prop} {R : Result → Shared → Prop} {s : Shared} {K : Frag} {h₀ : Heap} {L : Addr} {m : Str → Option Value} {news news' : Led} {x : Addr}
theorem meta_Exception : typeOf (.type "Exception") = pure (.type "type") := by kernel_rfl
theorem excInit_led {e tp : Nat} {dd : Option Addr} {vs : List Value} {Q : Value → Shared → Prop} (X : K.In h₀) (q : e59 K) (F : Fr h₀ L s.heap m) (N : News h₀ L s.heap news) (hm : (e, excAt tp dd) ∈ news)
    (nwf : Addr → Led) (U : ∀ D : Addr, (∀ p ∈ news, p.1 < D) → Upd e (excAt tp dd) (excAt D dd) news (nwf D))
    (h : ∀ D h', (∀ p ∈ news, p.1 < D) → Fr h₀ L h' m → News h₀ L h' ((D, excT vs) :: nwf D) → Q .none { s with heap := h' }) (hrest : vs.length ≤ sizeLine := by size_fits) :
    wpAny (model prog w) A (call (.builtin "Exception.__init__") (.ref e :: vs)) Q E s := by
  have Fx := PySem.F.excBase_Exception
  obtain ⟨nm, qn, N59, bs, sn, sub, ab, col, d0, k0, k1, k2, k3, k5, hC⟩ := exc_obj (X.keeps F.keep) q
  have he := (N _ hm).1
  have hcB : (Value.ref 59 :: bm59).contains (.type "Exception") = true := by decide
  obtain ⟨hh, g, d, t, os⟩ := s
  refine wpAny_call (codeAny_call_builtin Fx.init.plain Fx.initEntry ?_)
  have hshort := Fx.noStar
  simp only [checkBuiltinCall, Fx.initKind, Fx.initSplit, Fx.initRow]
  repeat (first | with_reducible refine wpAny_loadPart_at he ?_ | with_reducible refine wpAny_loadPart_at hC ?_ | (with_reducible refine wpAny_isSubtype_exc hC ?_; rw [hcB]) | wp_step)
  refine wpAny_onRaise ?_
  rw [show ∀ (a b : String) (n : Nat), Bind.check ⟨.positional, "*", "Exception", .self, [⟨"args", .varPos, false⟩]⟩ a b n (List.map (fun x => x.fst) ({ pos := Value.ref e :: vs } : Args).kw) = pure () from
    fun a b n => check_star_args _ _ _ _ _ _]
  refine wpAny_pure ?_
  wp_walk
  have U2 := U hh.objs.size (fun p hp => Heap.lt_size (N p hp).1)
  obtain ⟨pre, post, rfl, en, a, b⟩ := U2.split
  obtain ⟨F1, N1⟩ := news_upd (pre := (hh.objs.size, excT vs) :: pre) (f := Obj.mapFields fun x => x.setIfInBounds 0 (Value.ref hh.objs.size)) (o' := excAt hh.objs.size dd) (F.push _) (N.push F (excT vs)) (fun p hp => by
    rcases List.mem_cons.mp hp with rfl | hp
    · exact (Nat.ne_of_lt (Heap.lt_size he)).symm
    · exact a p hp) b rfl rfl
  exact h _ _ (fun p hp => Heap.lt_size (N p hp).1) F1 (by rw [en]; exact N1)
theorem xsa_open {od : Option Obj} {ox : Obj} {name : Str} {tk : Tok} {v : Value} (X : K.In s.heap) (q : e59 K) (I : InstAt s.heap x ox 59 od) (ht : findIn K (.ref 59) name = some none)
    (h : wpAny (model prog w) A.in1 (storeInOwnDict (.ref x) (.ref 59) (.str name tk) name v false)
      (fun fin s' => match fin with | .done f => R (.ok f) s' | .again c' => c'.quiet = true ∧ codeAny (model prog w) A c' R s') (fun e s' => R (.error e) s') s) :
    codeAny (model prog w) A (.call (.builtin "object.__setattr__") ⟨[.ref x, .str name tk, v], []⟩) R s := by
  have SF := PySem.F.store_object
  obtain ⟨nm, qn, N59, bs, sn, sub, ab, col, d0, k0, k1, k2, k3, k5, hC⟩ := exc_obj X q
  have hm : Looks (model prog w) s.heap (mroOf (.ref 59)) (.ref 59 :: bm59) := ((Looks.ld (part := none) hC).andThen .now).andThen .now
  have hsub : Looks (model prog w) s.heap (isInstance (.ref x) (.type "object")) true := I.type.andThen (fun A Q E s' k z => by
    obtain ⟨hh, g, d, t, os⟩ := s'
    exact wpAny_isSubtype_exc (k _ _ hC) z)
  refine codeAny_call_builtin SF.slot.plain SF.entry (@check_slot (model prog w) _ _ s "object.__setattr__" "object" "__setattr__" (.ref x) [.str name tk, v] [] _ SF.kind SF.split hsub (SF.args (.ref x) (.str name tk) v) ?_)
  rw [osa_eq, refuse_eq]
  refine wpAny_bind (wpAny_bind (I.type.here (wpAny_bind (hm.here ?_))))
  rw [bm59, refuseLoop_ref, refuseLoop_ref, PySem.F.store_Exception.passes]
  refine wpAny_pure (wpAny_bind (I.type.here (wpAny_bind ((looks_findIn X ht).here (wpAny_bind (wpAny_pure ?_))))))
  exact h
theorem store_led {dx : Nat} {name : Str} {tk : Tok} {v : Value} {es : List DictEntry} {n : Nat} {Q : Fin → Shared → Prop} (F : Fr h₀ L s.heap m) (N : News h₀ L s.heap news) (U : Upd dx (dictOf es n) (dictOf (putL name (PyData.keyHash w.params name) (.str name s.toks) v es) (putN name es n)) news news')
    (hl : (getL name es).isSome = true) (hz : (putL name (PyData.keyHash w.params name) (.str name s.toks) v es).length ≤ 1000)
    (h : ∀ h', Fr h₀ L h' m → News h₀ L h' news' → Q (.done (.ret .none)) { s with heap := h', toks := s.toks + 1 }) :
    wpAny (model prog w) A (storeInDict dx (.str name tk) name v) Q E s := by
  obtain ⟨pre, post, rfl, rfl, h1, h2⟩ := U.split
  obtain ⟨U1, U2⟩ := news_upd (f := Obj.putName name (PyData.keyHash w.params name) (.str name s.toks) v) F N h1 h2 (putName_dict ..) rfl
  have D := (N (dx, dictOf es n) (by simp)).1
  have D' := (U2 (dx, dictOf (putL name (PyData.keyHash w.params name) (.str name s.toks) v es) (putN name es n)) (by simp)).1
  refine wpAny_bind (wpAny_pure (wpAny_bind ?_))
  unfold nsSet
  refine wpAny_bind (wpAny_bind (wpAny_askSetting (wpAny_pure (wpAny_bind (wpAny_mkText (wpAny_bind (wpAny_loadPart D ?_)))))))
  rw [← lookIn_dict name es n] at hl
  unfold lookIn at hl
  dsimp only
  have c : (!es.toArray.any (·.key.isStr name) && es.toArray.any (·.refKey)) = false := by
    rw [← Array.any_toList, ← Array.any_toList]
    dsimp only at hl
    split at hl
    · rename_i en he
      rw [List.any_eq_true.mpr ⟨en, List.mem_of_find?_eq_some he, List.find?_some he⟩]; rfl
    · split at hl
      · cases hl
      · rename_i z; rw [Bool.not_eq_true] at z; rw [z, Bool.and_false]
  rw [aRefKeyMayBeTheName_at, c]
  refine wpAny_updatePart D ?_
  refine wpAny_bind (wpAny_lookBehind D' (pastItsLine_dict (by rw [List.size_toArray, sizeLine_eq]; (first | lia | omega))) ?_)
  exact wpAny_pure (h _ U1 U2)
theorem set_exc {ox : Obj} {od : Option Obj} {name : Str} {v : Value} {Q : Unit → Shared → Prop} (X : K.In s.heap) (q : e59 K) (I : InstAt s.heap x ox 59 od) (ht : findIn K (.ref 59) name = some none)
    (hs : findIn K (.ref 59) "__setattr__" = some (some (.builtin "object.__setattr__")))
    (h : wpAny (model prog w) A.in1 (storeInOwnDict (.ref x) (.ref 59) (.str name s.toks) name v false) (fun fin s' => fin = .done (.ret .none) ∧ Q () s') E { s with toks := s.toks + 1 }) :
    wpAny (model prog w) A (setAttr (.ref x) name v) Q E s := by
  refine set_plain X I hs (xsa_open (s := { s with toks := s.toks + 1 }) X q I ht (wpAny_mono h (fun fin s' z => ?_) fun _ _ z => z))
  obtain ⟨rfl, z⟩ := z
  exact z
theorem set_exc1 {t2 d : Nat} {es : List DictEntry} {n : Nat} {name : Str} {v : Value} {Q : Unit → Shared → Prop} (X₀ : K.In h₀) (q : e59 K) (F : Fr h₀ L s.heap m) (N : News h₀ L s.heap news) (hm : (x, excAt t2 (some d)) ∈ news) (ht : findIn K (.ref 59) name = some none)
    (hs : findIn K (.ref 59) "__setattr__" = some (some (.builtin "object.__setattr__"))) (hmd : (d, dictOf es n) ∈ news)
    (U : Upd d (dictOf es n) (dictOf (putL name (PyData.keyHash w.params name) (.str name (s.toks + 1)) v es) (putN name es n)) news news')
    (hl : (getL name es).isSome = true) (hz : ∀ t, (putL name (PyData.keyHash w.params name) (.str name t) v es).length ≤ 1000)
    (h : ∀ h', Fr h₀ L h' m → News h₀ L h' news' → Q () { s with heap := h', toks := s.toks + 2 }) :
    wpAny (model prog w) A (setAttr (.ref x) name v) Q E s := by
  have X := X₀.keeps F.keep
  have hx := (N _ hm).1
  have hd := (N _ hmd).1
  obtain ⟨nm, qn, N59, bs, sn, sub, ab, col, d0, k0, k1, k2, k3, k5, hC⟩ := exc_obj X q
  refine set_exc X q (ox := excAt t2 (some d)) (od := some (dictOf es n)) ⟨hx, rfl, rfl, hd⟩ ht hs ?_
  refine wpAny_bind (wpAny_pure (wpAny_bind (wpAny_bind (wpAny_loadPart hx (wpAny_bind (wpAny_bind (wpAny_load hC (wpAny_pure ?_))))))))
  refine wpAny_pure (a := some d) ?_
  exact store_led (s := { s with toks := s.toks + 1 }) F N U hl (hz _) fun h' F' N' => ⟨rfl, h h' F' N'⟩
theorem set_exc0 {t2 : Nat} {name : Str} {v : Value} {Q : Unit → Shared → Prop} (X₀ : K.In h₀) (q : e59 K) (F : Fr h₀ L s.heap m) (N : News h₀ L s.heap news) (hm : (x, excAt t2 none) ∈ news) (ht : findIn K (.ref 59) name = some none)
    (hs : findIn K (.ref 59) "__setattr__" = some (some (.builtin "object.__setattr__")))
    (nwf : Addr → Led) (U : ∀ D : Addr, (∀ p ∈ news, p.1 < D) → Upd x (excAt t2 none) (excAt t2 (some D)) news (nwf D))
    (h : ∀ D h', (∀ p ∈ news, p.1 < D) → Fr h₀ L h' m → News h₀ L h' ((D, dictOf [⟨PyData.keyHash w.params name, .str name (s.toks + 1), v⟩] 1) :: nwf D) → Q () { s with heap := h', toks := s.toks + 2 }) :
    wpAny (model prog w) A (setAttr (.ref x) name v) Q E s := by
  have X := X₀.keeps F.keep
  have hx := (N _ hm).1
  obtain ⟨nm, qn, N59, bs, sn, sub, ab, col, d0, k0, k1, k2, k3, k5, hC⟩ := exc_obj X q
  refine set_exc X q (ox := excAt t2 none) (od := none) ⟨hx, rfl, rfl, trivial⟩ ht hs ?_
  refine wpAny_bind (wpAny_pure (wpAny_bind (wpAny_bind (wpAny_loadPart hx (wpAny_bind (wpAny_bind (wpAny_load hC (wpAny_pure ?_))))))))
  have hx₁ := Heap.get?_push_of_some (h := s.heap) (dictOf [] 0) hx
  refine wpAny_bind (wpAny_alloc' ?_)
  refine wpAny_bind (wpAny_update' hx₁ ?_)
  refine wpAny_pure ?_
  have U2 := U s.heap.objs.size (fun p hp => Heap.lt_size (N p hp).1)
  obtain ⟨pre, post, rfl, en, a, b⟩ := U2.split
  obtain ⟨F1, N1⟩ := news_upd (pre := (s.heap.objs.size, dictOf [] 0) :: pre) (f := fun o => { cls := o.cls, dict := some s.heap.objs.size, data := o.data, slots := o.slots }) (o' := excAt t2 (some s.heap.objs.size)) (F.push _) (N.push F (dictOf [] 0)) (fun p hp => by
    rcases List.mem_cons.mp hp with rfl | hp
    · exact (Nat.ne_of_lt (Heap.lt_size hx)).symm
    · exact a p hp) b rfl rfl
  refine store_led (s := { s with heap := _, toks := s.toks + 1 }) F1 N1 (.head fun p hp => ?_) rfl (by simp [putL]) fun h' F' N' => ⟨rfl, h _ h' (fun p hp => Heap.lt_size (N p hp).1) F' (by rw [en]; exact N')⟩
  rcases List.mem_append.mp hp with hp | hp
  · exact Nat.ne_of_lt (Heap.lt_size (N p (List.mem_append_left _ hp)).1)
  · rcases List.mem_cons.mp hp with rfl | hp
    · exact Nat.ne_of_lt (Heap.lt_size hx)
    · exact Nat.ne_of_lt (Heap.lt_size (N p (List.mem_append_right _ (.tail _ hp))).1)
end

section
example : True := by
  k_with "getMethod type:Exception" => (k_here; refine' method_type ?z9F ?z9X ?z9m (by decide +kernel) ?z9e ?z9h ?_; (case z9F => k_asm); (case z9X => k_asm); (case z9m => exact meta_Exception); (case z9e => k_dflt k_is); (case z9h => k_handed))
  trivial
theorem swErr_con (w : World) (e tp : Nat) (msg : Value) :
   Con w 35 [.ref e, msg] 3 100 [(e, excAt tp none)]
     (fun v post => v = .none ∧ ∃ t2 d tk, post = [(d, dictOf [⟨PyData.keyHash w.params (Str.ofString "message"), .str (Str.ofString "message") tk, msg⟩] 1), (e, excAt t2 (some d))]) := by
  unfold Con
  intro p loose mean mg mb dp un gd cn cs a ccd cl outer A₀ base h₀ L m s Q E B F X N T hk hd hu hret
  refine wpAny_call ?_
  k_dflt (cell_ask [(Str.ofString "self", .ref e), (Str.ofString "message", msg)])
  k_steps
  refine' excInit_led ?X (e59_is w) ?F ?N (.head _) (fun D => [(e, excAt D none)]) (fun D hD => .head (fun _ h => (List.not_mem_nil h).elim)) ?_
  (case X => k_asm); (case F => k_asm); (case N => k_asm)
  intro D h' lD F' N'
  have nD : e ≠ D := Nat.ne_of_lt (lD _ (.head _))
  k_steps
  refine' set_exc0 ?X (e59_is w) ?F ?N (.tail _ (.head _)) ?k1 ?k2 (fun D2 => [(D, excT [msg]), (e, excAt D (some D2))]) (fun D2 hD => .tail nD.symm (.head (fun _ h => (List.not_mem_nil h).elim))) ?_
  (case X => k_asm); (case F => k_asm); (case N => k_asm); (case k1 => k_is); (case k2 => k_is)
  intro D2 h' lD F' N'
  k_steps
  exact con_end hret (by assumption) (by assumption) (by assumption) (by assumption) (by assumption) [_, _] (fun p hp => by
    rcases List.mem_cons.mp hp with rfl | hp
    · exact .head _
    · exact .tail _ (.tail _ hp)) ⟨rfl, D, D2, _, rfl⟩
end
theorem setErr_con (w : World) (e tp : Nat) (msg : Value) :
   Con w 56 [.ref e, msg] 5 200 [(e, excAt tp none)] (fun v post => v = .none ∧ ∃ t2 d, post = [(e, excAt t2 (some d))]) := by
  unfold Con
  intro p loose mean mg mb dp un gd cn cs a ccd cl outer A₀ base h₀ L m s Q E B F X N T hk hd hu hret
  refine wpAny_call ?_
  k_dflt (refine' code_con ?k1 ?k2 ?k3 ?k4 ?k5 ?kA ?kF ?kK ?k6 ?k7 ?k8 ?k9 ?kB ?_ ?c2 ?c3 ?c4 ?c5; (case kA => exact rfl); (case kF => exact rfl); (case kK => assumption); (case k1 => k_asm); (case k2 => k_asm); (case k3 => k_asm); (case k4 => k_asm); (case k5 => k_asm); (case k6 => k_is); (case k7 => k_is); (case k8 => ktr_room); (case k9 => first | exact binds_K (by k_in) rfl (by k_is) rfl rfl rfl); (case c5 => decide); (case kB => exact locs rfl); (case c2 => exact rfl); (case c3 => exact rfl); (case c4 => exact rfl); k_whole; intro g' L' h' FG' F' N' B' X' T' hin' l1; (try k_lt l1); (try dsimp only); (try k_lift B'); (try k_fold))
  k_with "con" => (refine hold ?_)
  k_steps
  unfold Hold
  refine' con_upd (rest := []) (swErr_con w e tp msg) ?k1 ?k2 ?k3 ?k4 ?k5 ?kK (.cons .head .nil) (fun _ _ _ h => (List.not_mem_nil h).elim) ?kd ?ku ?_
  cell_call
  rintro r post h' tk' ⟨rfl, t2, d, tk, rfl⟩ F' N' _
  rw [List.append_nil] at N'
  have nD : d ≠ e := led_ne N' (.head _) (.tail _ (.head _)) 
  k_steps
  refine' set_exc1 ?X (e59_is w) ?F ?N (.tail _ (.head _)) ?k1 ?k2 (.head _) ?U ?l ?z ?_
  (case X => k_asm); (case F => k_asm); (case N => k_asm); (case k1 => k_is); (case k2 => k_is)
  (case U => exact .head (fun p hp => by rw [List.mem_singleton.mp hp]; exact nD.symm))
  (case l => rfl)
  (case z => intro t; exact Nat.le_of_ble_eq_true rfl)
  intro h' F' N'
  k_steps
  exact con_end hret (by assumption) (by assumption) (by assumption) (by assumption) (by assumption) [_] (fun p hp => by
    rw [List.mem_singleton.mp hp]; exact .tail _ (.head _)) ⟨rfl, t2, d, rfl⟩
theorem mkErr_con (w : World) (msg : Value) :
   Con w 59 [msg] 7 300 [] (fun v post => ∃ e t2 d, v = .ref e ∧ post = [(e, excAt t2 (some d))]) := by
  unfold Con
  intro p loose mean mg mb dp un gd cn cs a ccd cl outer A₀ base h₀ L m s Q E B F X N T hk hd hu hret
  have X' := X.keeps F.keep
  obtain ⟨nm, qn, N59, bs, sn, sub, ab, col, d0, k0, k1, k2, k3, k5, hC⟩ := exc_obj X' (e59_is w)
  obtain ⟨hh, g, d, t, os⟩ := s
  refine call_own (K := Mine.hd.heap_1 w.params) (fI := 56) X' hC (by decide) (by decide) (by decide) (by k_is) (by k_is) ?_
  show wpAny (model pw w) (ktrTop (dp + 1) (un + 1) gd cn cs L a ccd cl outer) _ _ _ _
  have F1 : Fr h₀ L ((hh.push (excT [msg])).push (excO 59 hh.objs.size)) m := (F.push _).push _
  have N1 : News h₀ L ((hh.push (excT [msg])).push (excO 59 hh.objs.size)) [(hh.objs.size + 1, excAt hh.objs.size none)] := fun p hp => by
    rw [List.mem_singleton.mp hp]
    have N0 : News h₀ L hh [] := N
    have F0 : Fr h₀ L hh m := F
    have N9 := News.push (F0.push (excT [msg])) (News.push F0 N0 (excT [msg])) (excO 59 hh.objs.size)
    have N8 := N9 _ (List.Mem.head _)
    rw [Heap.size_push] at N8
    exact N8
  refine setErr_con w (hh.objs.size + 1) hh.objs.size msg _ _ _ _ _ _ _ _ _ _ _ _ _ _ _ _ _ _ _ _ _ _ B F1 X N1 T hk (by (first | lia | omega)) (by (first | lia | omega)) fun r post h' tk' hP F2 N2 keep fresh => ?_
  obtain ⟨rfl, t2, d2, rfl⟩ := hP
  refine ⟨rfl, hret _ [(hh.objs.size + 1, excAt t2 (some d2))] h' tk' ⟨_, t2, d2, rfl, rfl⟩ F2 N2 (fun b o e _ => ?_) (fun q hq => ?_)⟩
  · refine keep b o (Heap.get?_push_of_some _ (Heap.get?_push_of_some _ e)) fun hm => ?_
    have hlt : b < hh.objs.size := Heap.lt_size e
    have hb : b = hh.objs.size + 1 := by simpa using hm
    rw [hb] at hlt
    exact absurd hlt (Nat.not_lt.mpr (Nat.le_succ _))
  · right
    rw [List.mem_singleton.mp hq]
    exact Heap.get?_none_of_le (Nat.le_succ _)
end
example : True := by
  k_with_none
  k_with "call ref" => (k_here; k_dflt (k_extra "con"))
  k_with "binaryOp FloorDiv int int" => (k_here; k_dflt (refine floordiv_int (by k_dflt (first | lia | omega)) ?_ (Or.inl (PyProof.noPylong_small (by k_dflt (first | lia | omega))))))
  k_with "subscriptTail Name Constant ref int" => (k_here; (with_reducible show wpAny _ _ (subscriptTail _ _ (Value.ref _) (Value.int _ _)) _ _ _); k_dflt (first | (kim_at) | (with_unfolding_all refine' itm_led ?z9N ?z9m ?z9a ?z9b ?z9x ?_ ?z9hs ?z9hg; (case z9N => k_asm); (case z9m => k_mem); (case z9a => decide); (case z9b => decide); (case z9x => first | assumption | rfl); (case z9hs => with_unfolding_all rfl); (case z9hg => intro _; with_unfolding_all rfl); k_whole) | (with_unfolding_all refine' tup_led ?z9N ?z9m ?z9a ?z9b ?z9j ?z9x ?_ ?z9hs ?z9hg; (case z9N => k_asm); (case z9m => k_mem); (case z9a => decide); (case z9b => decide); (case z9j => rfl); (case z9x => rfl); (case z9hs => with_unfolding_all rfl); (case z9hg => intro _; with_unfolding_all rfl); k_whole)))
  k_with "subscriptTail Name Name ref int" => (k_here; (with_reducible show wpAny _ _ (subscriptTail _ _ (Value.ref _) (Value.int _ _)) _ _ _); (with_unfolding_all refine' itm_led ?z9N ?z9m ?z9a ?z9b ?z9x ?_ ?z9hs ?z9hg; (case z9N => k_asm); (case z9m => k_mem); (case z9a => first | assumption | k_dflt (first | lia | omega)); (case z9b => k_dflt (first | lia | omega)); (case z9x => first | assumption | exact List.getElem?_set_self (by k_dflt (first | lia | omega))); (case z9hs => with_unfolding_all rfl); (case z9hg => intro _; with_unfolding_all rfl); k_whole))
  k_with "subscriptTail Name Subscript ref int" => (k_here; (with_reducible show wpAny _ _ (subscriptTail _ _ (Value.ref _) (Value.int _ _)) _ _ _); (with_unfolding_all refine' itm_led ?z9N ?z9m ?z9a ?z9b ?z9x ?_ ?z9hs ?z9hg; (case z9N => k_asm); (case z9m => k_mem); (case z9a => first | assumption | k_dflt (first | lia | omega)); (case z9b => k_dflt (first | lia | omega)); (case z9x => first | assumption | exact List.getElem?_set_self (by k_dflt (first | lia | omega))); (case z9hs => with_unfolding_all rfl); (case z9hg => intro _; with_unfolding_all rfl); k_whole))
  k_with "subscriptTail Attribute" => (k_here; k_dflt (refine kba_turn (value' := PySem.Expr.Name (PySem.Str.ofString "_") ⟨0, 0, 0, 0⟩) (fun _ => rfl) ?_))
  k_with "subscriptTail Subscript" => (k_here; k_dflt (refine kba_turn (value' := PySem.Expr.Name (PySem.Str.ofString "_") ⟨0, 0, 0, 0⟩) (fun _ => rfl) ?_))
  k_with "subscriptTail Call" => (k_here; k_dflt (refine kba_turn (value' := PySem.Expr.Name (PySem.Str.ofString "_") ⟨0, 0, 0, 0⟩) (fun _ => rfl) ?_))
  k_with "call builtin:len" => (k_here; (with_reducible show wpAny _ _ (call (Value.builtin "len") [Value.ref _]) _ _ _); k_dflt (refine' len_led ?z9k1 ?z9k2 ?z9k3 ?_; (case z9k1 => k_asm); (case z9k2 => k_mem); (case z9k3 => first | assumption | k_dflt (first | lia | omega) | (simp only [List.length_cons, List.length_nil]; k_dflt (first | lia | omega))); k_whole))
  k_with "compareOp Eq ref ref" => (k_here; (with_reducible show wpAny _ _ (compareOp CmpOp.Eq (Value.ref _) (Value.ref _)) _ _ _); k_dflt (refine' eq_nil_led ?z9k1 ?z9k2 ?z9k3 ?z9k4 ?_; (case z9k1 => k_asm); (case z9k2 => k_mem); (case z9k3 => k_mem); (case z9k4 => ktr_units); k_whole))
  k_with "compareOp NotEq ref ref" => (k_here; (with_reducible show wpAny _ _ (compareOp CmpOp.NotEq (Value.ref _) (Value.ref _)) _ _ _); k_dflt (refine' ne_nil_led ?z9k1 ?z9k2 ?z9k3 ?z9k4 ?_; (case z9k1 => k_asm); (case z9k2 => k_mem); (case z9k3 => k_mem); (case z9k4 => ktr_units); k_whole))
  k_with "call builtin:list.pop" => (k_here; (with_reducible show wpAny _ _ (call (Value.builtin _) [Value.ref _, Value.int _ _]) _ _ _); k_dflt (refine' pop0_led ?z9F ?z9N ?z9U ?z9z ?_; (case z9F => k_asm); (case z9N => k_asm); (case z9U => k_upd); (case z9z => first | assumption | k_dflt (first | lia | omega)); k_whole); cell_end 21 0 0; (try k_sweep))
  k_with "call builtin:sum" => (k_here; (with_reducible show wpAny _ _ (call (Value.builtin "sum") [Value.ref _]) _ _ _); k_dflt (refine' sum_led ?z9k0 ?z9k1 ?z9k2 ?z9k3 ?z9k4 ?_; (case z9k0 => with_unfolding_all rfl); (case z9k1 => k_asm); (case z9k2 => k_asm); (case z9k3 => k_mem); (case z9k4 => assumption); k_whole); cell_end 22 0 0; (try k_sweep))
  k_with "eval ListComp" => (k_here; (with_reducible show wpAny _ _ (eval (Expr.ListComp _ [Comprehension.mk _ _ [] _] _ _) _) _ _ _); k_dflt (refine LCg.ListComp_U (F₀ := by k_asm) (by with_unfolding_all rfl) (by decide) (by rfl) (by decide) (by rfl) ?_))
  k_with "eval ListComp" => (k_here; (with_reducible show wpAny _ _ (eval (Expr.ListComp _ [Comprehension.mk _ _ [_] _] _ _) _) _ _ _); k_dflt (refine LCt.ListComp_T (F₀ := by k_asm) (by with_unfolding_all rfl) (by decide) (by rfl) (by decide) (by rfl) ?_))
  k_with "CompSrc" => (k_here; k_dflt (refine' LCg.CompSrc.ledger ?z9kh ?z9kF ?z9kN ?z9km ?_ ?_; (case z9kh => rfl); (case z9kF => k_asm); (case z9kN => k_asm); (case z9km => k_mem); rotate_left; cell_end 24 0 0; (try dsimp only); k_extra "rest"))
  k_with "call builtin:max" => (k_here; (with_reducible show wpAny _ _ (call (Value.builtin "max") [Value.int _ _, Value.int _ _]) _ _ _); k_dflt (refine' max2_led ?z9k0 ?z9k1 ?z9k2 ?_; (case z9k0 => with_unfolding_all rfl); (case z9k1 => k_asm); (case z9k2 => k_asm); k_whole); cell_end 22 0 0; (try k_sweep))
  k_with "call builtin:min" => (k_here; (with_reducible show wpAny _ _ (call (Value.builtin "min") [Value.int _ _, Value.int _ _]) _ _ _); k_dflt (refine' min2_led ?z9k0 ?z9k1 ?z9k2 ?_; (case z9k0 => with_unfolding_all rfl); (case z9k1 => k_asm); (case z9k2 => k_asm); k_whole); cell_end 22 0 0; (try k_sweep))
  k_with "binaryOp Mult ref int" => (k_here; (with_reducible show wpAny _ _ (binaryOp Operator.Mult (Value.ref _) (Value.int _ _)) _ _ _); k_dflt (refine' mulrep_led ?z9k1 ?z9k2 ?z9k3 ?z9k4 ?z9k5 ?_; (case z9k1 => k_asm); (case z9k2 => k_asm); (case z9k3 => k_mem); (case z9k4 => k_dflt (first | lia | omega)); (case z9k5 => k_dflt (first | lia | omega)); k_whole); cell_end 23 0 0; (try k_sweep))
  k_with "setItem ref int" => (k_here; k_dflt (refine' set_led ?z9k1 ?z9k2 ?z9k3 ?z9k4 ?z9k5 ?z9k6 ?_; (case z9k1 => k_asm); (case z9k2 => k_asm); (case z9k3 => k_upd); (case z9k4 => first | assumption | k_dflt (first | lia | omega)); (case z9k5 => first | assumption | k_dflt (first | lia | omega)); (case z9k6 => k_dflt (first | lia | omega)); k_whole); cell_end 21 0 0; (try k_sweep))
  k_with "newList" => (k_here; k_dflt (refine' newList_K ?z9k1 ?z9k2 ?_; (case z9k1 => k_asm); (case z9k2 => k_asm); k_whole); cell_end 23 0 0; (try k_sweep))
  k_with "newTuple" => (k_here; k_dflt (refine' kup_newTuple ?z9k1 ?z9k2 ?_ ?z9kz; (case z9k1 => k_asm); (case z9k2 => k_asm); (case z9kz => exact Nat.le_of_ble_eq_true rfl); k_whole); cell_end 23 0 0; (try k_sweep))
  k_with "call builtin:list.append" => (k_here; (with_reducible show wpAny _ _ (call (Value.builtin _) [Value.ref _, _]) _ _ _); k_dflt (refine' append_led ?z9k1 ?z9k2 ?z9k3 ?z9k4 ?_; (case z9k1 => k_asm); (case z9k2 => k_asm); (case z9k3 => k_upd); (case z9k4 => first | assumption | k_dflt (first | lia | omega)); k_whole); cell_end 21 0 0; (try k_sweep))
  k_with "exec Assign cons ListComp" => (k_here; (with_reducible show wpAny _ _ (exec (Stmt.Assign [_] (Expr.ListComp _ [Comprehension.mk _ _ [_] _] _ _) _) _) _ _ _); k_dflt (refine LCt.Assign_ListComp_T (F₀ := by k_asm) (by rfl) (by with_unfolding_all rfl) (by with_unfolding_all rfl) (by decide) (by rfl) (by decide) (by rfl) (by rfl) (by rfl) ?_))
  k_with "exec Assign cons ListComp" => (k_here; (with_reducible show wpAny _ _ (exec (Stmt.Assign [_] (Expr.ListComp _ [Comprehension.mk _ _ [] _] _ _) _) _) _ _ _); k_dflt (refine LCg.Assign_ListComp_U (F₀ := by k_asm) (by rfl) (by with_unfolding_all rfl) (by with_unfolding_all rfl) (by decide) (by rfl) (by decide) (by rfl) (by rfl) (by rfl) ?_))
  k_with "CompSrcT" => (k_here; k_dflt (refine LCt.CompSrcT.range (by rfl) (by k_asm) (by k_asm) (by assumption) (small_one (by k_dflt (first | lia | omega)) (by k_dflt (first | lia | omega)) (by k_dflt (first | lia | omega)) (by k_dflt (first | lia | omega))) (rangeSize_nat _ _) ?_ ?_; rotate_left; cell_end 24 0 0; (try dsimp only); k_extra "restT"))
  k_with "binaryOp Add ref ref" => (k_here; (with_reducible show wpAny _ _ (binaryOp _ (Value.ref _) (Value.ref _)) _ _ _); k_dflt (refine' addT_led ?z9k1 ?z9k2 ?z9k3 ?z9k4 ?z9k5 ?z9k6 ?z9k7 ?z9k8 ?_; (case z9k1 => k_asm); (case z9k2 => k_asm); (case z9k3 => k_mem); (case z9k4 => k_mem); (case z9k5 => exact rfl); (case z9k6 => exact List.cons_ne_nil _ _); (case z9k7 => exact List.cons_ne_nil _ _); (case z9k8 => exact Nat.le_of_ble_eq_true rfl); k_whole); cell_end 23 0 0; (try k_sweep))
  k_with "call builtin:min" => (k_here; (with_reducible show wpAny _ _ (call (Value.builtin "min") [Value.ref _]) _ _ _); k_dflt (k_extra "min"))
  k_with "CompSrcT" => (k_here; k_dflt (refine' LCt.CompSrcT.ledger ?z9kh ?z9kF ?z9kN ?z9km ?_ ?_; (case z9kh => rfl); (case z9kF => k_asm); (case z9kN => k_asm); (case z9km => k_mem); rotate_left; cell_end 24 0 0; (try dsimp only); k_extra "restT"))
  k_with "subscriptTail Name Constant ref str" => (k_here; (with_reducible show wpAny _ _ (subscriptTail _ _ (Value.ref _) (Value.str _ _)) _ _ _); k_dflt (refine' kda_item (knd := PySem.strKind _ _) ?z9N ?z9hp ?z9hd (strKind_is _ _ _ _) ?z9hl ?_ ?z9hs ?z9hg; (case z9N => k_asm); (case z9hp => k_mem); (case z9hd => assumption); (case z9hl => rfl); (case z9hs => with_unfolding_all rfl); (case z9hg => intro _; with_unfolding_all rfl)); k_whole)
  k_with "setItem ref str" => (k_here; k_dflt (refine' kda_set (knd := PySem.strKind _ _) ?z9F ?z9N ?z9U ?z9d (strKind_is _ _ _ _) ?z9z ?_; (case z9F => k_asm); (case z9N => k_asm); (case z9U => k_updF); (case z9d => assumption); (case z9z => rw [sizeLine_eq]; exact Nat.le_of_ble_eq_true (by with_unfolding_all rfl))); cell_end 25 0 0)
  k_with "exec For Tuple Call" => (k_here; k_dflt (refine' For_turns ?z9lF ?_; (case z9lF => k_asm); k_whole))
  k_with "call type:enumerate" => (k_here; k_dflt (refine' ktu_enum ?z9hh ?z9F ?z9N ?z9hm ?z9hc ?z9hd ?z9hx ?_; (case z9hh => rfl); (case z9F => k_asm); (case z9N => k_asm); (case z9hm => k_mem); (case z9hc => rfl); (case z9hd => rfl); (case z9hx => rfl); k_extra "items"))
  k_with "compareOp NotEq ref ref" => (k_here; (with_reducible show wpAny _ _ (compareOp CmpOp.NotEq (Value.ref _) (Value.ref _)) _ _ _); k_dflt (first | (refine' ne_nil_led ?z9k1 ?z9k2 ?z9k3 ?z9k4 ?_; (case z9k1 => k_asm); (case z9k2 => k_mem); (case z9k3 => k_mem); (case z9k4 => ktr_units)) | (refine' ne_tup2 ?z9k1 ?z9k2 ?z9k3 ?z9k4 ?_; (case z9k1 => k_asm); (case z9k2 => k_mem); (case z9k3 => k_mem); (case z9k4 => ktr_units)) | (refine' ne_tup3 ?z9k1 ?z9k2 ?z9k3 ?z9k4 ?_; (case z9k1 => k_asm); (case z9k2 => k_mem); (case z9k3 => k_mem); (case z9k4 => ktr_units))); k_whole)
  k_with "exec For Name Name cons nil" => (k_here; k_dflt (refine' For_turns ?z9lF ?_; (case z9lF => k_asm); k_whole))
  k_with "exec For Name Call cons nil" => (k_here; k_dflt (refine' For_turns ?z9lF ?_; (case z9lF => k_asm); k_whole))
  k_with "pyIter ref" => (k_here; (with_reducible show wpAny _ _ (pyIter (Value.ref _)) (fun it s₂ => TurnsAt _ _ _ _ _ _ _ _ _ it s₂) _ _); k_dflt (first | (refine' iter_rangeTurns ?z9hh ?z9hr ?z9hs ?z9hn ?z9F ?z9N ?_; (case z9hh => rfl); (case z9hr => assumption); (case z9hs => first | decide | exact small_one (by k_dflt (first | lia | omega)) (by k_dflt (first | lia | omega)) (by k_dflt (first | lia | omega)) (by k_dflt (first | lia | omega))); (case z9hn => exact rangeSize_nat _ _); (case z9F => k_asm); (case z9N => k_asm); k_extra "items") | (refine' iter_listTurns ?z9hh ?z9F ?z9N ?z9hm ?z9hc ?z9hd ?_; (case z9hh => rfl); (case z9F => k_asm); (case z9N => k_asm); (case z9hm => k_mem); (case z9hc => rfl); (case z9hd => rfl); k_extra "items")))
  k_with "exec While Compare cons nil" => (k_here; k_dflt (k_extra "while"))
  k_with "exec While Constant cons nil" => (k_here; k_dflt (k_extra "while"))
  k_with "UnrEndW" => refine hold ?_
  k_with "eval ListComp" => (k_here; (with_reducible show wpAny _ _ (eval (Expr.ListComp _ [Comprehension.mk (Expr.Tuple _ _ _) _ [] _] _ _) _) _ _ _); k_dflt (refine LCp.ListComp_P (F₀ := by k_asm) (by with_unfolding_all rfl) (by decide) (by rfl) (by decide) (by rfl) (by rfl) (by decide) ?_))
  k_with "SrcLP" => (k_here; k_dflt (refine' LCp.SrcLP.ledger ?z9kh ?z9kF ?z9kN ?z9km ?_ ?_; (case z9kh => rfl); (case z9kF => k_asm); (case z9kN => k_asm); (case z9km => k_mem); rotate_left; cell_end 24 0 0; (try dsimp only); k_extra "restP"))
  k_with "exec Raise some none" => (k_here; k_dflt (k_extra "raise"))
  k_with "CompSrc" => (k_here; k_dflt (refine LCg.CompSrc.range (by rfl) (by k_asm) (by k_asm) (by assumption) (small_one (by k_dflt (first | lia | omega)) (by k_dflt (first | lia | omega)) (by k_dflt (first | lia | omega)) (by k_dflt (first | lia | omega))) (rangeSize_nat _ _) ?_ ?_; rotate_left; cell_end 24 0 0; (try dsimp only); k_extra "rest"))
  k_with "subscriptTail List Call ref int" => (k_here; k_dflt (k_extra "menu"))
  k_with "exec For Tuple Subscript cons nil" => (k_here; k_dflt (refine' For_turns ?z9lF ?_; (case z9lF => k_asm); k_whole))
  k_with "subscriptTail Name Slice ref ref" => (k_here; (with_reducible show wpAny _ _ (subscriptTail _ (PySem.Expr.Slice (some _) none none _) (Value.ref _) (Value.ref _)) _ _ _); k_dflt (refine' slice_led ?z9F ?z9N ?z9l ?z9x ?z9z ?_ ?z9s ?z9t; (case z9F => k_asm); (case z9N => k_asm); (case z9l => k_mem); (case z9x => k_dflt (first | lia | omega)); (case z9z => first | assumption | k_dflt (first | lia | omega)); (case z9s => with_unfolding_all rfl); (case z9t => kmk_pure)); cell_end 23 0 0; (try k_sweep))
  k_with "k_mem" => (first | exact List.Mem.head _ | (refine' List.Mem.tail _ ?_; k_mem) | assumption)
  k_with "ask2" => ((case kA => exact rfl); (case kF => exact rfl); (case kK => assumption); (case k1 => k_asm); (case k2 => k_asm); (case k3 => k_asm); (case k4 => k_asm); (case k5 => k_asm); (case k6 => k_is); (case k7 => k_is); (case k8 => ktr_room); (case k9 => first | exact BindsTo.of_eq rfl | exact binds_K (by k_in) rfl (by k_is) rfl rfl rfl); (case c5 => decide); (case kB => exact locs rfl); (case c2 => exact rfl); (case c3 => exact rfl); (case c4 => exact rfl); k_whole)
  k_with "askC2" => ((case kA => exact rfl); (case kF => exact rfl); (case kK => assumption); (case k1 => k_asm); (case k2 => k_asm); (case k3 => k_asm); (case k4 => k_asm); (case k5 => k_asm); (case k6 => k_is); (case k7 => k_is); (case k8 => ktr_room); (case k9 => first | exact BindsTo.of_eq rfl | exact binds_K (by k_in) rfl (by k_is) rfl rfl rfl); (case kB => exact rfl); (case kD => decide +kernel); (case c2 => exact rfl); (case c3 => exact rfl); (case c4 => exact rfl); k_whole)
  k_with "cell_call" => ((case k1 => k_asm); (case k2 => k_asm); (case k3 => k_asm); (case k4 => k_asm); (case k5 => k_asm); (case kK => first | exact rfl | assumption); (case kd => ktr_room); (case ku => ktr_units))
  k_with "k_all" => (first | exact List.forall_mem_nil _ | (refine List.forall_mem_cons.mpr ⟨?_, ?_⟩; (focus k_ne); k_all) | exact OwnOff.ne (by with_reducible assumption) (by k_memK) | exact fresh_ne (by with_reducible assumption) (by intro p hp; k_mem))
  k_with "k_ne" => (first | ((try dsimp only); first | (refine' NeA.ne ?z5h; (case z5h => with_reducible assumption)) | (refine' NeA.en ?z5h; (case z5h => with_reducible assumption)) | (refine' fresh1 ?z5h ?z5m; (case z5h => with_reducible assumption); (case z5m => k_mem)) | (refine' fresh2 ?z5h ?z5m; (case z5h => with_reducible assumption); (case z5m => k_mem))) | (refine neN ?_; (try dsimp only); k_dflt (first | lia | omega)))
  k_with "lcg_sub" => (first | exact List.forall_mem_nil _ | (refine List.forall_mem_cons.mpr ⟨?_, ?_⟩; (focus k_mem); lcg_sub) | (intro p hp; k_mem))
  k_with "ke_reads" => (first | exact List.forall_mem_nil _ | (refine List.forall_mem_cons.mpr ⟨?_, ?_⟩; (focus k_all); ke_reads))
  k_with "cell_step" => (cell_call; (case kp => lcg_src); (case ko => ke_reads))
  k_with "k_in" => (first | k_in_fast | with_reducible assumption | (with_reducible (refine' in_fr ?z4F ?z4X; (case z4F => assumption); (case z4X => assumption))))
  k_with "ends" => ((case F1 => k_asm); (case N1 => k_asm); (case s1 => first | exact fun _ hp => hp | exact fun _ hp => List.Mem.tail _ hp | exact fun _ hp => List.Mem.tail _ (List.Mem.tail _ hp) | lcg_sub))
  k_with "ne" => (first | infer_instance | exact neWorld | exact neShared | exact neAround | exact neParams | exact neItm | exact ⟨default⟩)
  k_with "ep" => (refine @all_epA _ (by k_extra "ne") _ ?_)
  k_with "epq" => (clear zq)
  k_with "epx" => (have zk := @epE_spec _ (by k_extra "ne") _ zh; clear zh)
  k_with "epe" => (replace zk := exE zk)
  k_with "epa" => (have zj := And.left zh; have zk := And.right zh; clear zh)
  k_with "epj" => (clear zj)
  k_with "epk" => (clear zk)
  k_with "cx" => (refine @all_epA _ neCx _ ?_; generalize epA _ _ = zc; refine exI ?_; generalize Cx.p zc = p, Cx.loose zc = loose, Cx.mean zc = mean, Cx.mg zc = mg, Cx.mb zc = mb, Cx.dp zc = dp, Cx.un zc = un, Cx.gd zc = gd, Cx.cn zc = cn, Cx.cs zc = cs, Cx.a zc = a, Cx.ccd zc = ccd, Cx.cl zc = cl, Cx.outer zc = outer, Cx.A₀ zc = A₀, Cx.base zc = base, Cx.h₀ zc = h₀, Cx.L zc = L, Cx.m zc = m, Cx.s zc = s, Cx.Q zc = Q, Cx.E zc = E; clear zc)
  k_with "cxa" => (refine @all_epA _ neCx _ ?_; generalize epA _ _ = zc; refine exI ?_; generalize Cx.p zc = p, Cx.loose zc = loose, Cx.mean zc = mean, Cx.mg zc = mg, Cx.mb zc = mb, Cx.dp zc = dp, Cx.un zc = un, Cx.gd zc = gd, Cx.cn zc = cn, Cx.cs zc = cs, Cx.a zc = ac, Cx.ccd zc = ccd, Cx.cl zc = cl, Cx.outer zc = outer, Cx.A₀ zc = A₀, Cx.base zc = base, Cx.h₀ zc = h₀, Cx.L zc = L, Cx.m zc = m, Cx.s zc = s, Cx.Q zc = Q, Cx.E zc = E; clear zc)
  k_with "i2" => (refine all_2 ?_ ?_; (focus (repeat' (first | exact neWorld | exact neShared | exact neAround | exact neParams | exact neItm | refine nePr ?_ ?_ | infer_instance | exact ⟨default⟩))); generalize ep2 _ _ = zq; refine ex2 ?_)
  k_with "i3" => (refine all_3 ?_ ?_; (focus (repeat' (first | exact neWorld | exact neShared | exact neAround | exact neParams | exact neItm | refine nePr ?_ ?_ | infer_instance | exact ⟨default⟩))); generalize ep3 _ _ = zq; refine ex3 ?_)
  k_with "i4" => (refine all_4 ?_ ?_; (focus (repeat' (first | exact neWorld | exact neShared | exact neAround | exact neParams | exact neItm | refine nePr ?_ ?_ | infer_instance | exact ⟨default⟩))); generalize ep4 _ _ = zq; refine ex4 ?_)
  k_with "i5" => (refine all_5 ?_ ?_; (focus (repeat' (first | exact neWorld | exact neShared | exact neAround | exact neParams | exact neItm | refine nePr ?_ ?_ | infer_instance | exact ⟨default⟩))); generalize ep5 _ _ = zq; refine ex5 ?_)
  k_with "i6" => (refine all_6 ?_ ?_; (focus (repeat' (first | exact neWorld | exact neShared | exact neAround | exact neParams | exact neItm | refine nePr ?_ ?_ | infer_instance | exact ⟨default⟩))); generalize ep6 _ _ = zq; refine ex6 ?_)
  k_with "i7" => (refine all_7 ?_ ?_; (focus (repeat' (first | exact neWorld | exact neShared | exact neAround | exact neParams | exact neItm | refine nePr ?_ ?_ | infer_instance | exact ⟨default⟩))); generalize ep7 _ _ = zq; refine ex7 ?_)
  k_with "i8" => (refine all_8 ?_ ?_; (focus (repeat' (first | exact neWorld | exact neShared | exact neAround | exact neParams | exact neItm | refine nePr ?_ ?_ | infer_instance | exact ⟨default⟩))); generalize ep8 _ _ = zq; refine ex8 ?_)
  k_with "eph" => (clear zh)
  k_with "sub" => (first | exact sub_nil | (refine sub_cons ?_ ?_; (focus (k_extra "mem")); k_extra "sub") | (refine sub_app ?_ ?_; (focus (k_extra "sub")); k_extra "sub") | k_extra "incl")
  k_with "mem" => (with_reducible (first | exact List.mem_cons_self .. | (refine List.mem_cons_of_mem _ ?_; k_extra "mem") | (refine List.mem_append_left _ ?_; k_extra "mem") | (refine List.mem_append_right _ ?_; k_extra "mem") | assumption))
  k_with "incl" => (with_reducible (first | exact fun _ h => h | (refine sub_tail ?_; k_extra "incl") | (refine sub_left ?_; k_extra "incl") | (refine sub_right ?_; k_extra "incl")))
  k_with "room" => ((try dsimp only [depth_under_make, depth_under_kw, depth_in1, depth_deeper, depth_caller, ktrTop]); first | exact room_lt0 (by assumption) | exact room_lt (by assumption) (by decide) | exact room_lt2 (by assumption) (by decide) | exact room_lt3 (by assumption) (by decide))
  k_with "units" => ((try dsimp only [units_in1, units_deeper, Around.mark_units, units_caller, ktrTop]); first | exact room_lt0 (by assumption) | exact room_lt (by assumption) (by decide) | exact room_lt2 (by assumption) (by decide) | exact room_lt3 (by assumption) (by decide))
  trivial
-- Exc3
example : True := by
  w_top off
  trivial
section
set_option genInjectivity false in
structure XG (base g : Heap) (l : List Env) (keep : Led) (hid : List Addr) (B : Heap) : Prop where
  st : base.StaysIn B
  sg : ∀ b o, g.get? b = some o → b ∉ l.filterMap (·.frame) → B.get? b = some o
  kp : ∀ q ∈ keep, B.get? q.1 = some q.2 ∧ g.get? q.1 = none ∧ base.get? q.1 = none
  hd : ∀ c ∈ hid, B.get? c = none
theorem XG.raised {base g B : Heap} {l : List Env} {keep : Led} {hid : List Addr} {e : Addr} {cls a0 : Value} {h : Heap} (x : XG base g l keep hid B) (f : Heap.FlyingW B l e cls a0 h) : RaisedSN base g l e cls keep h := ⟨B, a0, x.st, x.sg, x.kp, f⟩
theorem leave_own {M : Model} {A : Around} {E : Value → Shared → Prop} {s' : Shared} {base g : Heap} {outer : List Env} {L a e : Addr} {m : Str → Option Value} {name : Str} {scope : Scope} {cd : Value} {Q : Unit → Shared → Prop} {news keep : Led} {hid : List Addr}
    {od : Option Addr} {a0 : Value} {sl : Array (Option Value)} (K : Below A base outer g) (F : Fr g L s'.heap m) (N : News g L s'.heap ((e, ⟨.ref 59, od, .fields #[a0, .none, .none, .none, .bool false, .none], sl⟩) :: news)) (off : ∀ p ∈ news, p.1 ≠ e)
    (hk : ∀ p ∈ keep, p ∈ news) (hkh : ∀ p ∈ keep, p.1 ∉ hid) (hh : ∀ c ∈ hid, ∃ o, (c, o) ∈ news)
    (hQ : ∀ h' B a1, XG base g outer keep hid B → Heap.FlyingW B outer e (.ref 59) a1 h' → s'.heap.UpToSlots h' → Q () { s' with heap := h' }) (hkd : scope.kind = .function := by rfl) :
    wpAny M (A.deeper (envOf name scope L a cd)) (leaving (envOf name scope L a cd) (.ref e)) Q E s' := by
  have ne := N _ (.head _)
  have hnew : ∀ c ∈ e :: hid, c ≠ L ∧ g.get? c = none := fun c hc => by
    rcases List.mem_cons.mp hc with rfl | hc
    · exact ne.2
    · obtain ⟨o, ho⟩ := hh c hc
      exact (N _ (.tail _ ho)).2
  obtain ⟨oL, es, ep, hL, r⟩ := F.ns
  have F1 : Fr g L (hideAll s'.heap (e :: hid)) m := by
    refine ⟨⟨oL, es, ep, hideAll_get _ hL (fun h => (hnew _ h).1 rfl), r⟩, fun b o q => hideAll_get _ (F.keep b o q) (fun h => ?_), F.above⟩
    rw [(hnew _ h).2] at q; cases q
  have N1 : News g L (hideAll s'.heap (e :: hid)) keep := fun p hp => ⟨hideAll_get _ (N p (.tail _ (hk p hp))).1 (fun h => by
    rcases List.mem_cons.mp h with h | h
    · exact off p (hk p hp) h
    · exact hkh p hp h), (N p (.tail _ (hk p hp))).2⟩
  have K' := K.push (name := name) (a := a) (cd := cd) F1 hkd
  have hin : ∀ env ∈ (envOf name scope L a cd :: outer), ∀ b, env.frame = some b → b ∈ (envOf name scope L a cd :: outer).filterMap (·.frame) := fun env he b hb => List.mem_filterMap.mpr ⟨env, he, hb⟩
  have st : base.StaysIn (hideAll (hideAll s'.heap (e :: hid)) ((envOf name scope L a cd :: outer).filterMap (·.frame))) := fun b o q => hideAll_get _ (K'.stays b o q) fun hm => by
    rw [(K'.frames.mem hm).1] at q; cases q
  have sg : ∀ b o, g.get? b = some o → b ∉ outer.filterMap (·.frame) → (hideAll (hideAll s'.heap (e :: hid)) ((envOf name scope L a cd :: outer).filterMap (·.frame))).get? b = some o := fun b o q nm => hideAll_get _ (F1.keep b o q) fun hm => by
    rcases kts_mem hm with z | z
    · rw [z, kts_self F] at q
      cases q
    · exact nm z
  have hl : ∀ q ∈ keep, (hideAll (hideAll s'.heap (e :: hid)) ((envOf name scope L a cd :: outer).filterMap (·.frame))).get? q.1 = some q.2 ∧ g.get? q.1 = none ∧ base.get? q.1 = none := fun q hq => by
    refine ⟨hideAll_get _ (N1 q hq).1 fun hm => ?_, (N1 q hq).2.2, fresh_of_stays K.stays (N1 q hq).2.2⟩
    rcases kts_mem hm with z | z
    · exact (N1 q hq).2.1 z
    · obtain ⟨o, ho, _⟩ := (K.frames.mem z).2
      rw [(N1 q hq).2.2] at ho; cases ho
  have keepH : ∀ b o, (hideAll s'.heap (e :: hid)).get? b = some o → s'.heap.get? b = some o := fun b o q => of_hideAll _ q
  have hen : ∀ c ∈ e :: hid, (hideAll (hideAll s'.heap (e :: hid)) ((envOf name scope L a cd :: outer).filterMap (·.frame))).get? c = none := fun c hc => by
    cases q : (hideAll (hideAll s'.heap (e :: hid)) ((envOf name scope L a cd :: outer).filterMap (·.frame))).get? c with
    | none => rfl
    | some o => have := of_hideAll _ q; rw [hideAll_none _ hc] at this; cases this
  refine wpAny_leaving_firstW (a0 := a0) K'.stack ((funFrames_hide K'.frames hin).of_keeps fun b o hb _ => ⟨o, keepH b o hb, rfl⟩) rfl ne.1 (fun b o hb => keepH b o (of_hideAll _ hb)) (hen e (.head _)) rfl rfl rfl fun h' hL => ?_
  obtain ⟨k1, ⟨_, _, k2⟩, k3, k4⟩ := hL
  exact hQ h' _ a0 ⟨st, sg, hl, fun c hc => hen c (.tail _ hc)⟩ ⟨k1, hen e (.head _), k2, k3⟩ k4
noncomputable def RaiX (w : World) (f : Addr) (vs : List Value) (dn un0 : Nat) (pre keep : Led) (hid : List Addr) : Prop :=
  ∀ (p : Program) (loose : List Str) (mean : ExcName → Option Value) (mg mb : Str → Option Value)
    (dp un : Nat) (gd : Option (List Code)) (cn : Str) (cs : Scope) (a : Addr) (ccd : Value) (outer : List Env) (A₀ : Around) (base h₀ : Heap) (L : Addr) (m : Str → Option Value)
    (s : Shared) (Q E : Value → Shared → Prop),
    Below A₀ base outer h₀ → Fr h₀ L s.heap m → (Mine.hd.heap_1 w.params).In h₀ → News h₀ L s.heap pre → Top p loose mean mg mb h₀ → cs.kind = .function →
    dp + dn < recursionLimit → un + un0 < cLine →
    (∀ e g h' tk B a0, Fr h₀ L g m → XG base g (envOf cn cs L a ccd :: outer) keep hid B → Heap.FlyingW B (envOf cn cs L a ccd :: outer) e (.ref 59) a0 h' → g.UpToSlots h' →
      (∀ p ∈ pre, (∀ vs, p.2.data ≠ .fields vs) → ∃ sl, h'.get? p.1 = some { p.2 with slots := sl }) → E (.ref e) { s with heap := h', toks := tk }) →
    wpAny (model pw w) (ktrTop dp un gd cn cs L a ccd [] outer) (call (.ref f) vs) Q E s
section
open EpsOn EpsNf
theorem rowErr1 (w : World) (t1 t2 : Tok) (pre keep : Led) (hid : List Addr) (hk : ∀ p ∈ keep, p ∈ pre) (hkh : ∀ p ∈ keep, p.1 ∉ hid) (hh : ∀ c ∈ hid, ∃ o, (c, o) ∈ pre) : RaiX w 106 [.int 1 t1, .int 0 t2] 12 600 pre keep hid := by
  revert w t1 t2 pre keep hid hk hkh hh
  intro w t1 t2 pre keep hid hk hkh hh
  unfold RaiX
  intro p loose mean mg mb dp un gd cn cs a ccd outer A₀ base h₀ L m s Q E B F X N T hkd hd hu hret
  refine' call_clsK ?k1 ?k2 ?k3 ?k4 ?k5 ?k6 ?_
  (case k1 => k_asm); (case k2 => k_asm); (case k3 => k_asm); (case k4 => k_is); (case k5 => k_is); (case k6 => k_is)
  intro x' d' h' F' N' l1 l2 l3
  k_dflt (cell_ask [(Str.ofString "self", .ref x'), (Str.ofString "most", .int 1 t1), (Str.ofString "most_octets", .int 0 t2)])
  k_with "con" => (refine hold ?_)
  k_with "raise" => (refine hold ?_)
  k_steps
  unfold Hold
  rename_i g1 L1 h1 FG1 F1 N1 B1 X1 T1 hin1 l11
  refine exec_raise_own rfl ?_
  k_steps
  unfold Hold
  refine' con_upd (rest := (x', instObj 106 d') :: (d', dictOf [] 0) :: pre) (mkErr_con w _) ?k1 ?k2 ?k3 ?k4 ?k5 ?kK .nil (fun _ h => (List.not_mem_nil h).elim) ?kd ?ku ?_
  cell_call
  rintro r post h2 tk2 ⟨e, t2, d2, rfl, rfl⟩ F2 N2 fr
  have fr2 : ∀ p ∈ ((x', instObj 106 d') :: (d', dictOf [] 0) :: pre : Led), p.1 ≠ e := by
    rcases fr (e, _) (.head _) with h | h
    · exact (List.not_mem_nil h).elim
    · exact h
  clear fr
  k_steps
  refine ⟨e, _, _, _, rfl, exc_obj (X1.keeps F2.keep) (e59_is w), (N2 _ (.head _)).1, ?_⟩
  dsimp only
  refine leave_own B1 F2 N2 fr2 (keep := keep) (hid := hid) (fun p hp => .tail _ (.tail _ (hk p hp))) hkh (fun c hc => (hh c hc).imp fun o ho => .tail _ (.tail _ ho)) fun h3 B3 a1 x3 f3 u3 => ?_
  refine hret e g1 h3 _ B3 a1 FG1 x3 f3 ((Heap.UpToSlots.of_keeps F2.keep).trans u3) fun p hp hnf => u3 p.1 p.2 (N2 p (.tail _ (.tail _ (.tail _ hp)))).1 hnf
end
section
open EpsOn EpsNf
theorem rowErr2 (w : World) (t1 t2 : Tok) (pre keep : Led) (hid : List Addr) (hk : ∀ p ∈ keep, p ∈ pre) (hkh : ∀ p ∈ keep, p.1 ∉ hid) (hh : ∀ c ∈ hid, ∃ o, (c, o) ∈ pre) : RaiX w 106 [.int 0 t1, .int 1 t2] 12 600 pre keep hid := by
  revert w t1 t2 pre keep hid hk hkh hh
  intro w t1 t2 pre keep hid hk hkh hh
  unfold RaiX
  intro p loose mean mg mb dp un gd cn cs a ccd outer A₀ base h₀ L m s Q E B F X N T hkd hd hu hret
  refine' call_clsK ?k1 ?k2 ?k3 ?k4 ?k5 ?k6 ?_
  (case k1 => k_asm); (case k2 => k_asm); (case k3 => k_asm); (case k4 => k_is); (case k5 => k_is); (case k6 => k_is)
  intro x' d' h' F' N' l1 l2 l3
  k_dflt (cell_ask [(Str.ofString "self", .ref x'), (Str.ofString "most", .int 0 t1), (Str.ofString "most_octets", .int 1 t2)])
  k_with "con" => (refine hold ?_)
  k_with "raise" => (refine hold ?_)
  k_steps
  unfold Hold
  rename_i g1 L1 h1 FG1 F1 N1 B1 X1 T1 hin1 l11
  refine exec_raise_own rfl ?_
  k_steps
  unfold Hold
  refine' con_upd (rest := (x', instObj 106 d') :: (d', dictOf [] 0) :: pre) (mkErr_con w _) ?k1 ?k2 ?k3 ?k4 ?k5 ?kK .nil (fun _ h => (List.not_mem_nil h).elim) ?kd ?ku ?_
  cell_call
  rintro r post h2 tk2 ⟨e, t2, d2, rfl, rfl⟩ F2 N2 fr
  have fr2 : ∀ p ∈ ((x', instObj 106 d') :: (d', dictOf [] 0) :: pre : Led), p.1 ≠ e := by
    rcases fr (e, _) (.head _) with h | h
    · exact (List.not_mem_nil h).elim
    · exact h
  clear fr
  k_steps
  refine ⟨e, _, _, _, rfl, exc_obj (X1.keeps F2.keep) (e59_is w), (N2 _ (.head _)).1, ?_⟩
  dsimp only
  refine leave_own B1 F2 N2 fr2 (keep := keep) (hid := hid) (fun p hp => .tail _ (.tail _ (hk p hp))) hkh (fun c hc => (hh c hc).imp fun o ho => .tail _ (.tail _ ho)) fun h3 B3 a1 x3 f3 u3 => ?_
  refine hret e g1 h3 _ B3 a1 FG1 x3 f3 ((Heap.UpToSlots.of_keeps F2.keep).trans u3) fun p hp hnf => u3 p.1 p.2 (N2 p (.tail _ (.tail _ (.tail _ hp)))).1 hnf
end
theorem rai_use {w : World} {f : Addr} {vs : List Value} {dn un0 : Nat} {pre keep : Led} {hid : List Addr}
    {p : Program} {loose : List Str} {mean : ExcName → Option Value} {mg mb : Str → Option Value}
    {dp un : Nat} {gd : Option (List Code)} {cn : Str} {cs : Scope} {a : Addr} {ccd : Value} {outer : List Env} {A₀ : Around} {base h₀ : Heap} {L : Addr} {m : Str → Option Value}
    {s : Shared} {Q E : Value → Shared → Prop} (C : RaiX w f vs dn un0 pre keep hid)
    (B : Below A₀ base outer h₀) (F : Fr h₀ L s.heap m) (X : (Mine.hd.heap_1 w.params).In h₀) (N : News h₀ L s.heap pre) (T : Top p loose mean mg mb h₀) (hk : cs.kind = .function)
    (hd : dp + dn < recursionLimit) (hu : un + un0 < cLine)
    (ret : ∀ e g h' tk B a0, Fr h₀ L g m → XG base g (envOf cn cs L a ccd :: outer) keep hid B → Heap.FlyingW B (envOf cn cs L a ccd :: outer) e (.ref 59) a0 h' → g.UpToSlots h' →
      (∀ p ∈ pre, (∀ vs, p.2.data ≠ .fields vs) → ∃ sl, h'.get? p.1 = some { p.2 with slots := sl }) → E (.ref e) { s with heap := h', toks := tk }) :
    wpAny (model pw w) (ktrTop dp un gd cn cs L a ccd [] outer) (call (.ref f) vs) Q E s :=
  C _ _ _ _ _ _ _ _ _ _ _ _ _ _ _ _ _ _ _ _ _ B F X N T hk hd hu ret
end
-- Exc4
example : True := by
  w_top off
  trivial
section
open LCg in
noncomputable def SrcX (prog : Program) (w : World) (A : Around) (E : Value → Shared → Prop) (h₀ : Heap) (L : Addr) (m : Str → Option Value) (env : Env) (elt : PySem.Expr) (x x₂ : Str) (scope : Scope) (cl : List (Str × Addr)) (Q : Value → Shared → Prop) (ax t : Addr) (v₁ v₂ : Value) (ep nt : Nat) (xv : Value) (s₁ : Shared) : Prop :=
  ∃ news, xv = .ref ax ∧ Fr h₀ L s₁.heap m ∧ News h₀ L s₁.heap news ∧ (ax, listOf #[.ref t] ep) ∈ news ∧ (t, tupOf #[v₁, v₂] nt) ∈ news ∧
      ∀ I oI C oC D m₂ h tk, NsObj oC m₂ → m₂ x = some v₁ → m₂ x₂ = some v₂ → Fr h₀ L h m → News h₀ L h ((I, oI) :: (C, oC) :: (D, lst []) :: news) → (∀ p ∈ news, p.1 ≠ C) → C ≠ I → C ≠ D →
        wpAny (model prog w) A (eval elt (compEnvC scope cl C env)) (fun _ _ => False) (notedBy (model prog w) A (compEnvC scope cl C env) fun e s' => compPost (model prog w) A E none Q (.ref D) C (.error e) s') { s₁ with heap := h, toks := tk }
open LCg in
theorem ListComp_X {prog : Program} {w : World} {A : Around} {E : Value → Shared → Prop} {s : Shared} {h₀ : Heap} {L : Addr} {m : Str → Option Value} {env : Env} {elt iter : PySem.Expr} {x x₂ : Str} {px px₂ tp : Pos} {tk} {scope : Scope} {cl : List (Str × Addr)} {pos : Pos} {Q : Value → Shared → Prop} {ax t : Addr} {v₁ v₂ : Value} {ep nt : Nat}
    (F₀ : Fr h₀ L s.heap m) (hh : A.handled = none) (hclos : closureFor scope env = pure cl) (hcell : ∀ y ∈ scope.names, y.2 ≠ .cell) (hkind : scope.kind = .function)
    (hnames : ∀ y ∈ scope.names, y.2 = .local → scope.names.lookup y.1 = some .local) (hx : scope.names.lookup x = some .local) (hx₂ : scope.names.lookup x₂ = some .local) (hxx : x ≠ x₂)
    (h : wpAny (model prog w) A (eval iter env) (SrcX prog w A E h₀ L m env elt x x₂ scope cl Q ax t v₁ v₂ ep nt) E s)
    (hs : ∀ x, foldedSetIterable iter env x = pure x := by intro _; rfl) :
    wpAny (model prog w) A (eval (.ListComp elt [⟨.Tuple [.Name x px, .Name x₂ px₂] tk tp, iter, [], 0⟩] scope pos) env) Q E s := by
  rw [eval_ListComp]
  refine wpAny_comprehension_free (use := none) rfl hs hclos hkind hnames (wpAny_mono h (fun xv s₁ h₁ => ?_) fun _ _ e => e)
  obtain ⟨news, rfl, F, N, hm, ht0, R⟩ := h₁
  have hl : s₁.heap.IsList ax #[.ref t] := ⟨_, (N _ hm).1, rfl, ep, rfl⟩
  have hlt : ax < s₁.heap.objs.size := Heap.lt_size (N _ hm).1
  refine wpAny_pyIter_list hl ?_
  have W := (Walks.list (prog := prog) (w := w) hh s₁.heap.objs.size ax (Nat.ne_of_lt hlt) #[.ref t])
  have up : ∀ b o, s₁.heap.get? b = some o → (s₁.heap.push { cls := .type "list_iterator", data := .fields #[.ref ax, .int 0 0] }).get? b = some o := fun b o e => Heap.get?_push_of_some _ e
  have hI₀ := next_is_new F
  have hIL : L ≠ s₁.heap.objs.size := Nat.ne_of_lt F.ns.lt
  have hLlt : L < s₁.heap.objs.size := F.ns.lt
  have hIget : (s₁.heap.push { cls := .type "list_iterator", data := .fields #[.ref ax, .int 0 0] }).get? s₁.heap.objs.size = some { cls := .type "list_iterator", data := .fields #[.ref ax, .int 0 0] } := Heap.get?_push_size _ rfl
  generalize hH1 : s₁.heap.push { cls := .type "list_iterator", data := .fields #[.ref ax, .int 0 0] } = H1 at *
  have hs1 : H1.objs.size = s₁.heap.objs.size + 1 := by rw [← hH1, Heap.size_push]
  refine wpAny_newObj_type (wpAny_newFunctionEnv hcell (by intro y hy; simp at hy) (fun h₁ hns₁ hsb₁ => ?_) hkind)
  dsimp only at hns₁ hsb₁ ⊢
  have up2 : ∀ b o, H1.get? b = some o → (H1.push { cls := .type "list", dict := none, data := .seq ([] : List Value).toArray }).get? b = some o := fun b o e => Heap.get?_push_of_some _ e
  have hDget : (H1.push { cls := .type "list", dict := none, data := .seq ([] : List Value).toArray }).get? H1.objs.size = some (lst []) := Heap.get?_push_size _ rfl
  generalize hH2 : H1.push { cls := .type "list", dict := none, data := .seq ([] : List Value).toArray } = H2 at *
  have hs2 : H2.objs.size = s₁.heap.objs.size + 2 := by rw [← hH2, Heap.size_push, hs1]
  have hst0 : H1.IsListIter s₁.heap.objs.size ax 0 ∧ H1.IsList ax #[.ref t] := ⟨⟨_, hIget, rfl, rfl⟩, ⟨_, up _ _ (N _ hm).1, rfl, ep, rfl⟩⟩
  have old2 : ∀ b o, H2.get? b = some o → h₁.get? b = some o := fun b o e => hsb₁.extBut b o (Nat.ne_of_lt (Heap.lt_size e)) (Heap.get?_push_of_some _ e)
  have old : ∀ b o, s₁.heap.get? b = some o → h₁.get? b = some o := fun b o e => old2 b o (up2 b o (up b o e))
  have hst₁ := W.frame 0 _ h₁ hst0 fun b _ o e => old2 b o (up2 b o e)
  have n0 : ∀ b o, s₁.heap.get? b = some o → b ≠ s₁.heap.objs.size ∧ b ≠ H1.objs.size ∧ b ≠ H2.objs.size := fun b o e => by
    have := Heap.lt_size e
    exact ⟨Nat.ne_of_lt this, by rw [hs1]; exact Nat.ne_of_lt (Nat.lt_succ_of_lt this), by rw [hs2]; exact Nat.ne_of_lt (Nat.lt_succ_of_lt (Nat.lt_succ_of_lt this))⟩
  have hCI : H2.objs.size ≠ s₁.heap.objs.size := by rw [hs2]; exact Nat.ne_of_gt (Nat.lt_succ_of_lt (Nat.lt_succ_self _))
  have hCD : H2.objs.size ≠ H1.objs.size := by rw [hs2, hs1]; exact Nat.ne_of_gt (Nat.lt_succ_self _)
  have hDI : H1.objs.size ≠ s₁.heap.objs.size := by rw [hs1]; exact Nat.ne_of_gt (Nat.lt_succ_self _)
  have loop : ∀ s₃ : Shared, s₃ = { s₁ with heap := h₁, toks := s₁.toks + ([] : List (Str × Value)).length } →
      codeAny (model prog w) A (.compLoop (.ListComp elt [⟨.Tuple [.Name x px, .Name x₂ px₂] tk tp, iter, [], 0⟩] scope pos) 0 (.ref s₁.heap.objs.size) (.ref H1.objs.size) (compEnvC scope cl H2.objs.size env))
        (compPost (model prog w) A E none Q (.ref H1.objs.size) H2.objs.size) s₃ := by
    intro s₃ hs₃
    refine LCp.codeAny_compLoop_pair (fun k s' => k = 1 ∧ s' = s₃) ?_ 1 ⟨rfl, rfl⟩
    rintro k s' ⟨rfl, rfl⟩
    subst hs₃
    refine W.item 0 _ _ _ (Nat.zero_lt_one) hst₁ fun v h₂ tk₂ hPv hst₂ hk₂ => ?_
    have hv : v = .ref t := by simpa using hPv.symm
    subst hv
    have ht2 : IsTup h₂ t #[v₁, v₂] := ⟨_, hk₂ _ _ (by simpa using (n0 _ _ (N _ ht0).1).1) (old _ _ (N _ ht0).1), rfl, nt, rfl⟩
    refine wpAny_letOwnedTupleGo_listiter hst₂.1 ?_
    refine assign_Tuple_tuple hh ht2 rfl rfl fun h₅ he => ?_
    have he' : ∀ b o, h₂.get? b = some o → h₅.get? b = some o := fun b o e => he b o (Nat.ne_of_lt (Heap.lt_size e)) e
    refine assignInOrder_cons (wpAny_assign_Name (wpAny_storeName_local (lookup_relabel_local hx) ((hns₁.at' fun o e => hk₂ _ o (by simpa using hCI) e).at' fun o e => he' _ o e) (fun h₆ hn₆ hs₆ => ?_) (by simp [compEnvC, relabel, hkind])))
    refine assignInOrder_cons (wpAny_assign_Name (wpAny_storeName_local (lookup_relabel_local hx₂) hn₆ (fun h₃ hn₃ hs₃ => ?_) (by simp [compEnvC, relabel, hkind])))
    refine assignInOrder_nil ?_
    have old3 : ∀ b o, b ≠ H2.objs.size → h₂.get? b = some o → h₃.get? b = some o := fun b o hb e => hs₃.extBut b o hb (hs₆.extBut b o hb (he' b o e))
    have hst₃ := W.frame _ _ h₃ hst₂ fun b hb o e => old3 b o (fun q => by
      subst q
      rcases List.mem_cons.mp hb with q | hb
      · exact hCI q
      · exact (n0 ax _ (N _ hm).1).2.2 (List.mem_singleton.mp hb).symm) e
    obtain ⟨oI, heI⟩ : ∃ oI, h₃.get? s₁.heap.objs.size = some oI := by obtain ⟨o, e, _⟩ := hst₃.1; exact ⟨o, e⟩
    obtain ⟨oC, heC, hoC⟩ := ns_obj hn₃
    have hC₀ : h₀.get? H2.objs.size = none := by
      cases e : h₀.get? H2.objs.size with
      | none => rfl
      | some o' => exact absurd rfl (n0 _ _ (F.keep _ _ e)).2.2
    have hD₀ : h₀.get? H1.objs.size = none := by
      cases e : h₀.get? H1.objs.size with
      | none => rfl
      | some o' => exact absurd rfl (n0 _ _ (F.keep _ _ e)).2.1
    have hCL : H2.objs.size ≠ L := by rw [hs2]; exact Nat.ne_of_gt (Nat.lt_succ_of_lt (Nat.lt_succ_of_lt hLlt))
    have hDL : H1.objs.size ≠ L := by rw [hs1]; exact Nat.ne_of_gt (Nat.lt_succ_of_lt hLlt)
    have all3 : ∀ b o, s₁.heap.get? b = some o → h₃.get? b = some o := fun b o e => old3 b o (n0 b o e).2.2 (hk₂ b o (by simpa using (n0 b o e).1) (old b o e))
    have F₃ : Fr h₀ L h₃ m := F.keeps all3
    have N₃ : News h₀ L h₃ ((s₁.heap.objs.size, oI) :: (H2.objs.size, oC) :: (H1.objs.size, lst []) :: news) := fun p hp => by
      rcases List.mem_cons.mp hp with rfl | hp
      · exact ⟨heI, Ne.symm hIL, hI₀⟩
      rcases List.mem_cons.mp hp with rfl | hp
      · exact ⟨heC, hCL, hC₀⟩
      rcases List.mem_cons.mp hp with rfl | hp
      · exact ⟨old3 _ _ hCD.symm (hk₂ _ _ (by simpa using hDI) (old2 _ _ hDget)), hDL, hD₀⟩
      · exact ⟨all3 _ _ (N p hp).1, (N p hp).2⟩
    refine wpAny_mono (R s₁.heap.objs.size oI H2.objs.size oC H1.objs.size _ h₃ _ hoC (by simp [hxx]) (by simp) F₃ N₃ (fun p hp => (n0 _ _ (N p hp).1).2.2) hCI hCD) (fun _ _ z => z.elim) fun _ _ e => e
  exact codeAny_compStart_list (loop _ rfl) (W.self 0 _ _ _ hst₁ (loop _ rfl))
noncomputable def AnyW (B : Heap) (l : List Env) (e : Addr) (cls a0 fl : Value) (h : Heap) : Prop := B.StaysIn h ∧ B.get? e = none ∧ h.FunFrames B l ∧ h.TracedAtW B e cls a0 fl
theorem leave_any {M : Model} {A : Around} {E : Value → Shared → Prop} {s : Shared} {B : Heap} {env : Env} {outer : List Env} {L e : Addr} {cls a0 fl : Value} {Q : Unit → Shared → Prop}
    (hfr : A.frames = some (env :: outer)) (hf : env.frame = some L) (hx : AnyW B (env :: outer) e cls a0 fl s.heap)
    (hQ : ∀ h', Heap.FlyingW B outer e cls a0 h' → s.heap.UpToSlots h' → Q () { s with heap := h' }) : wpAny M A (leaving env (.ref e)) Q E s := by
  obtain ⟨hkb, hen, hl, oe, vs, T, oT, ts, he, ⟨hcls, h0⟩, hd, h1, hnT, hTe, hT, hdT, h3⟩ := hx
  unfold leaving
  by_cases hfl : fl = rawInt L
  · subst hfl
    have hh : Heap.HeldW B (env :: outer) e cls a0 L s.heap := ⟨hkb, hen, hl, oe, vs, T, oT, ts, he, ⟨hcls, h0⟩, hd, h1, hnT, hTe, hT, hdT, h3⟩
    refine wpAny_bind (wpAny_noteFrame_againW hf hh.2.2.2 ?_)
    refine wpAny_landsW hh fun h' hfl u => ?_
    obtain ⟨k1, k2, ⟨_, _, k3⟩, k4⟩ := hfl
    exact hQ h' ⟨k1, k2, k3, k4⟩ u
  · subst hcls
    unfold noteFrame
    simp only [hf]
    refine wpAny_bind (wpAny_bind (wpAny_field he hd h1 ?_))
    rw [if_pos (show (Value.ref T != Value.none) = true from by simp)]
    refine wpAny_bind (wpAny_field hT hdT h3 ?_)
    rw [if_neg (by simpa using hfl)]
    refine wpAny_bind (wpAny_setField hT hdT (Array.getElem?_eq_some_iff.mp h3).1 ?_)
    have other : ∀ b, b ≠ T → (s.heap.update T (Obj.mapFields (·.setIfInBounds 3 Value.none))).get? b = s.heap.get? b := fun b hb => Heap.get?_update_other _ _ (Ne.symm hb)
    have noRecord : ∀ b o, s.heap.get? b = some o → (∀ vs, o.data ≠ .fields vs) → b ≠ T := fun b o hb hnf q => by
      rw [q, hT] at hb; injection hb with hb; subst hb; exact hnf ts hdT
    refine wpAny_newEntryW hfr (hl.of_keeps fun b o hb hnf => ⟨o, (other b (noRecord b o hb hnf)).trans hb, rfl⟩) hf ((other e (Ne.symm hTe)).trans he)
      (fun b o hbo => (other b fun q => by rw [q, hnT] at hbo; cases hbo).trans (hkb b o hbo)) hen hd (Array.getElem?_eq_some_iff.mp h1).1 h0
      fun h' ⟨x1, ⟨_, _, x2⟩, x3, x4⟩ => hQ h' ⟨x1, hen, x2, x3⟩ fun b o hb hnf => x4 b o ((other b (noRecord b o hb hnf)).trans hb) hnf
theorem comp_out {M : Model} {A : Around} {E : Value → Shared → Prop} {Q : Value → Shared → Prop} {s : Shared} {B : Heap} {env : Env} {outer : List Env} {L C e : Addr} {cls a0 D : Value} {m' : Str → Option Value} {scope : Scope} {cl : List (Str × Addr)}
    (hfr : A.frames = some (env :: outer)) (hf : env.frame = some L) (hx : Heap.FlyingW B (env :: outer) e cls a0 s.heap) (hC : B.get? C = none) (hfC : C ∉ (env :: outer).filterMap (·.frame)) (hns : s.heap.Ns C m')
    (hQ : ∀ h' fl, AnyW B (env :: outer) e cls a0 fl h' → (∀ b o, s.heap.get? b = some o → b ≠ C → (∀ vs, o.data ≠ .fields vs) → ∃ sl, h'.get? b = some { o with slots := sl }) → E (.ref e) { s with heap := h' }) :
    notedBy M A (compEnvC scope cl C env) (fun e s' => compPost M A E none Q D C (.error e) s') (.ref e) s := by
  show wpAny M A (noteFrame (.ref e) env) _ _ _
  refine wpAny_looks_onW hfr hf hx fun h1 held u1 => ?_
  have hns1 := u1.ns hns
  refine ⟨m', hns1, fun h' hs' cenv _ => ?_⟩
  obtain ⟨hkb, hen, hl, oe, vs, T, oT, ts, he, ⟨hcls, h0⟩, hd, h1', hnT, hTe, hT, hdT, h3⟩ := held
  obtain ⟨oC, es, ep, hoC, hdC, _⟩ := hns1
  have neC : ∀ b o vs, h1.get? b = some o → o.data = .fields vs → b ≠ C := fun b o vs hb hd q => by
    rw [q, hoC] at hb; cases hb; rw [hdC] at hd; cases hd
  have he2 : h'.get? e = some oe := hs'.extBut _ _ (neC _ _ _ he hd) he
  have hT2 : h'.get? T = some oT := hs'.extBut _ _ (neC _ _ _ hT hdT) hT
  unfold PySem.passOn
  refine wpAny_bind (wpAny_field he2 hd h1' ?_)
  rw [if_neg (by simp)]
  refine wpAny_bind ?_
  unfold setFlight
  refine wpAny_bind (wpAny_field he2 hd h1' ?_)
  rw [if_pos (show (Value.ref T != Value.none) = true from by simp)]
  refine wpAny_setField hT2 hdT (Array.getElem?_eq_some_iff.mp h3).1 ?_
  have other : ∀ x b, b ≠ T → (h'.update T (Obj.mapFields (·.setIfInBounds 3 x))).get? b = h'.get? b := fun x b hb => Heap.get?_update_other _ _ (Ne.symm hb)
  have noRecord : ∀ b o, h1.get? b = some o → (∀ vs, o.data ≠ .fields vs) → b ≠ T := fun b o hb hnf q => by
    rw [q, hT] at hb; injection hb with hb; subst hb; exact hnf ts hdT
  refine wpAny_throw ?_
  refine hQ _ (cenv.frame.elim .none fun f => rawInt f) ⟨fun b o hb => ?_, hen, ?_, oe, vs, T, _, _, (other _ e hTe.symm).trans he2, ⟨hcls, h0⟩, hd, h1', hnT, hTe, Heap.get?_update_self _ hT2 (Obj.isFreed_of_fields (Obj.data_mapFields hdT _)), Obj.data_mapFields hdT _, by simp [(Array.getElem?_eq_some_iff.mp h3).1]⟩ fun b o hb hbC hnf => ?_
  · have hbT : b ≠ T := fun q => by rw [q, hnT] at hb; cases hb
    have hbC : b ≠ C := fun q => by rw [q, hC] at hb; cases hb
    exact (other _ b hbT).trans (hs'.extBut _ _ hbC (hkb _ _ hb))
  · have hl2 := funFrames_hideAll (as := [C]) hl fun en hen2 b hb hf2 => hfC (List.mem_filterMap.mpr ⟨en, hen2, by rw [hf2, List.mem_singleton.mp hb]⟩)
    refine hl2.of_keeps fun b o hb hnf => ⟨o, ?_, rfl⟩
    have hb1 := of_hideAll _ hb
    have hbC : b ≠ C := fun q => by rw [q, hideAll_none _ (List.mem_singleton.mpr rfl)] at hb; cases hb
    exact (other _ b (noRecord b o hb1 hnf)).trans (hs'.extBut _ _ hbC hb1)
  · obtain ⟨sl, hsl⟩ := u1 b o hb hnf
    exact ⟨sl, (other _ b (noRecord b _ hsl hnf)).trans (hs'.extBut _ _ hbC hsl)⟩
end
-- Exc5
example : True := by
  w_top off
  trivial
section
example : True := by
  k_with "eval ListComp" => (k_here; k_dflt (k_extra "comp"))
  trivial
section
open EpsOn EpsNf
theorem defErrA (w : World) (qa la ep1 ep2 : Nat) (t1 : Tok) (pre : Led) (m1 : (qa, listOf #[.int 1 t1] ep1) ∈ pre) (m2 : (la, listOf #[] ep2) ∈ pre) : RaiX w 165 [.ref qa, .ref la] 20 900 pre pre [] := by
  revert w qa la ep1 ep2 t1 pre m1 m2
  intro w qa la ep1 ep2 t1 pre m1 m2
  unfold RaiX
  intro p loose mean mg mb dp un gd cn cs a ccd outer A₀ base h₀ L m s Q E B F X N T hkd hd hu hret
  refine' call_clsK ?k1 ?k2 ?k3 ?k4 ?k5 ?k6 ?_
  (case k1 => k_asm); (case k2 => k_asm); (case k3 => k_asm); (case k4 => k_is); (case k5 => k_is); (case k6 => k_is)
  intro x' d' h' F' N' l1 l2 l3
  k_dflt (cell_ask [(Str.ofString "self", .ref x'), (Str.ofString "quanta", .ref qa), (Str.ofString "limits", .ref la)])
  rename_i g1 L1 h1 FG1 F1 N1 B1 X1 T1 hin1 l11
  k_with "con" => (refine hold ?_)
  k_with "raise" => (refine hold ?_)
  k_with "min" => (refine hold ?_)
  k_with "comp" => (refine hold ?_)
  k_steps
  · unfold Hold
    refine exec_raise_own rfl ?_
    k_steps
    unfold Hold
    refine' con_upd (mkErr_con w _) ?k1 ?k2 ?k3 ?k4 ?k5 ?kK ?kp ?ko ?kd ?ku ?_
    cell_call
    (case kp => exact .nil)
    (case ko => exact fun _ h => (List.not_mem_nil h).elim)
    rintro r post h2 tk2 ⟨e, t2, d2, er, ep⟩ F2 N2 fr
    subst er ep
    have fr2 := (fr (e, _) (.head _)).resolve_left List.not_mem_nil
    clear fr
    k_steps
    refine ⟨e, _, _, _, rfl, exc_obj (Frag.In.keeps X1 F2.keep) (e59_is w), (N2 _ (.head _)).1, ?_⟩
    dsimp only
    refine leave_own B1 F2 N2 fr2 (keep := pre) (hid := []) (fun p hp => by k_mem) (fun _ _ h => List.not_mem_nil h) (fun _ h => (List.not_mem_nil h).elim) fun h3 B3 a1 x3 f3 u3 => ?_
    refine hret e g1 h3 _ B3 a1 FG1 x3 f3 ((Heap.UpToSlots.of_keeps F2.keep).trans u3) fun p hp hnf => u3 p.1 p.2 (N2 p (by k_mem)).1 hnf
  · rename (_ : Int) = _ => hx; simp at hx
  · rename (_ : Int) = _ => hx; simp at hx
end
section
open EpsOn EpsNf
theorem defErrD (w : World) (qa la ep1 ep2 : Nat) (t1 t2 : Tok) (v1 v2 : Value) (pre : Led) (m1 : (qa, listOf #[.int 0 t1, .int 1 t2] ep1) ∈ pre) (m2 : (la, listOf #[v1, v2] ep2) ∈ pre) : RaiX w 165 [.ref qa, .ref la] 20 900 pre pre [] := by
  revert w qa la ep1 ep2 t1 t2 v1 v2 pre m1 m2
  intro w qa la ep1 ep2 t1 t2 v1 v2 pre m1 m2
  unfold RaiX
  intro p loose mean mg mb dp un gd cn cs a ccd outer A₀ base h₀ L m s Q E B F X N T hkd hd hu hret
  refine' call_clsK ?k1 ?k2 ?k3 ?k4 ?k5 ?k6 ?_
  (case k1 => k_asm); (case k2 => k_asm); (case k3 => k_asm); (case k4 => k_is); (case k5 => k_is); (case k6 => k_is)
  intro x' d' h' F' N' l1 l2 l3
  k_dflt (cell_ask [(Str.ofString "self", .ref x'), (Str.ofString "quanta", .ref qa), (Str.ofString "limits", .ref la)])
  rename_i g1 L1 h1 FG1 F1 N1 B1 X1 T1 hin1 l11
  k_with "con" => (refine hold ?_)
  k_with "raise" => (refine hold ?_)
  k_with "min" => (refine hold ?_)
  k_with "comp" => (refine hold ?_)
  k_steps
  · rename (_ : Int) ≠ _ => hx; simp at hx
  · rename List.isEmpty _ = true => hx; simp at hx
  · unfold Hold
    have hi : IntsAre [.int 0 t1, .int 1 t2] [0, 1] := .cons _ _ (.cons _ _ .nil)
    refine' min_led (ns := [0, 1]) ?k0 ?k1 ?k2 ?k3 ?k4 ?k5 ?_
    (case k0 => with_unfolding_all rfl); (case k1 => k_asm); (case k2 => k_asm); (case k3 => k_mem); (case k4 => exact hi); (case k5 => exact Nat.zero_lt_succ _)
    intro h2 M tM tkM F2 N2 hM1 hM2
    have hM : M = 0 := by
      have := hM2 0 (by simp)
      simp at hM1
      (first | lia | omega)
    subst hM
    k_steps
    unfold Hold
    refine exec_raise_own rfl ?_
    k_steps
    unfold Hold
    refine' con_upd (mkErr_con w _) ?k1 ?k2 ?k3 ?k4 ?k5 ?kK ?kp ?ko ?kd ?ku ?_
    cell_call
    (case kp => exact .nil)
    (case ko => exact fun _ h => (List.not_mem_nil h).elim)
    rintro r post h2 tk2 ⟨e, t2, d2, er, ep⟩ F2 N2 fr
    subst er ep
    have fr2 := (fr (e, _) (.head _)).resolve_left List.not_mem_nil
    clear fr
    k_steps
    refine ⟨e, _, _, _, rfl, exc_obj (Frag.In.keeps X1 F2.keep) (e59_is w), (N2 _ (.head _)).1, ?_⟩
    dsimp only
    refine leave_own B1 F2 N2 fr2 (keep := pre) (hid := []) (fun p hp => by k_mem) (fun _ _ h => List.not_mem_nil h) (fun _ h => (List.not_mem_nil h).elim) fun h3 B3 a1 x3 f3 u3 => ?_
    refine hret e g1 h3 _ B3 a1 FG1 x3 f3 ((Heap.UpToSlots.of_keeps F2.keep).trans u3) fun p hp hnf => u3 p.1 p.2 (N2 p (by k_mem)).1 hnf
end
section
open EpsOn EpsNf
theorem defErrB (w : World) (qa la tp ep1 ep2 : Nat) (t1 t2 t3 : Tok) (pre : Led) (m1 : (qa, listOf #[.int 1 t1] ep1) ∈ pre) (m2 : (la, listOf #[.ref tp] ep2) ∈ pre) (m3 : (tp, tupOf #[.int 1 t2, .int 0 t3] 0) ∈ pre) : RaiX w 165 [.ref qa, .ref la] 20 900 pre pre [] := by
  revert w qa la tp ep1 ep2 t1 t2 t3 pre m1 m2 m3
  intro w qa la tp ep1 ep2 t1 t2 t3 pre m1 m2 m3
  unfold RaiX
  intro p loose mean mg mb dp un gd cn cs a ccd outer A₀ base h₀ L m s Q E B F X N T hkd hd hu hret
  refine' call_clsK ?k1 ?k2 ?k3 ?k4 ?k5 ?k6 ?_
  (case k1 => k_asm); (case k2 => k_asm); (case k3 => k_asm); (case k4 => k_is); (case k5 => k_is); (case k6 => k_is)
  intro x' d' h' F' N' l1 l2 l3
  k_dflt (cell_ask [(Str.ofString "self", .ref x'), (Str.ofString "quanta", .ref qa), (Str.ofString "limits", .ref la)])
  rename_i g1 L1 h1 FG1 F1 N1 B1 X1 T1 hin1 l11
  k_with "con" => (refine hold ?_)
  k_with "raise" => (refine hold ?_)
  k_with "min" => (refine hold ?_)
  k_with "comp" => (refine hold ?_)
  k_steps
  · rename (_ : Int) ≠ _ => hx; simp at hx
  · rename List.isEmpty _ = true => hx; simp at hx
  · unfold Hold
    have hi : IntsAre [.int 1 t1] [1] := .cons _ _ .nil
    refine' min_led (ns := [1]) ?k0 ?k1 ?k2 ?k3 ?k4 ?k5 ?_
    (case k0 => with_unfolding_all rfl); (case k1 => k_asm); (case k2 => k_asm); (case k3 => k_mem); (case k4 => exact hi); (case k5 => exact Nat.zero_lt_succ _)
    intro h2 M tM tkM F2 N2 hM1 hM2
    have hM : M = 1 := by simpa using hM1
    subst hM
    have hoff : OwnOff pre [d'] := fun p hp b hb => by
      rw [List.mem_singleton.mp hb]; exact Nat.ne_of_lt (l1 p hp)
    have hoff2 : OwnOff pre [x'] := fun p hp b hb => by
      rw [List.mem_singleton.mp hb]; exact Nat.ne_of_lt (Nat.lt_trans (l1 p hp) l2)
    have nxd : NeA d' x' := Nat.ne_of_lt l2
    k_steps
    unfold Hold
    rename_i hT1 hN1
    refine ListComp_X (F₀ := by k_asm) (ax := la) (t := tp) (v₁ := .int 1 t2) (v₂ := .int 0 t3) (ep := ep2) (nt := 0) rfl (by with_unfolding_all rfl) (by decide) (by rfl) (by decide) (by rfl) (by rfl) (by decide) ?_
    k_steps
    unfold SrcX
    refine ⟨_, rfl, by k_asm, by k_asm, by k_mem, by k_mem, ?_⟩
    intro I oI C oC D m₂ h tk hC hx hx2 F2 N2 offC cI cD
    k_steps
    unfold Hold
    have zC := N2 (C, oC) (.tail _ (.head _))
    have hns9 := hC
    obtain ⟨esC, epC, hdC, _⟩ := hns9
    refine' rai_use (rowErr1 w t2 t3 _ pre [C] ?a ?b ?c) ?k1 ?k2 ?k3 ?k4 ?k5 ?kK ?kd ?ku ?_

    cell_call
    (case a => intro p hp; k_mem)
    (case b => intro p hp h; exact offC p (by k_mem) (List.mem_singleton.mp h))
    (case c => intro c hc; exact ⟨oC, by rw [List.mem_singleton.mp hc]; exact .tail _ (.head _)⟩)
    intro e g2 h3 tk3 B3 a1 FG2 x3 f3 u3 k3
    obtain ⟨sl, hsl⟩ := k3 (C, oC) (.tail _ (.head _)) (fun vs q => by rw [hdC] at q; cases q)
    refine comp_out (C := C) rfl rfl f3 (x3.hd C (.head _)) (fun hm => ?_) (LCg.NsObj.ns (show LCg.NsObj { oC with slots := sl } m₂ from hC) hsl) fun h4 fl any4 keep4 => ?_
    · rcases kts_mem hm with z | z
      · exact zC.2.1 z
      · obtain ⟨o, ho, _⟩ := (B1.frames.mem z).2
        rw [zC.2.2] at ho; cases ho
    dsimp only
    refine leave_any rfl rfl any4 fun h5 f5 u5 => ?_
    refine hret e g1 h5 _ B3 a1 FG1 ⟨x3.st, fun b o q nm => x3.sg b o (FG2.keep b o q) (fun hm => ?_), fun q hq => ⟨(x3.kp q hq).1, kts_none FG2.keep (x3.kp q hq).2.1, (x3.kp q hq).2.2⟩, fun _ h => (List.not_mem_nil h).elim⟩ f5 (fun b o hb hnf => ?_) (fun p hp hnf => ?_)
    · rcases kts_mem hm with z | z
      · rw [z, kts_self FG2] at q; cases q
      · exact nm z
    · obtain ⟨sl1, e1⟩ := u3 b o (FG2.keep b o hb) hnf
      obtain ⟨sl2, e2⟩ := keep4 b _ e1 (fun q => by rw [q, zC.2.2] at hb; cases hb) hnf
      obtain ⟨sl3, e3⟩ := u5 b _ e2 hnf
      exact ⟨sl3, e3⟩
    · obtain ⟨sl1, e1⟩ := k3 p (by k_mem) hnf
      obtain ⟨sl2, e2⟩ := keep4 p.1 _ e1 (offC p (by k_mem)) hnf
      obtain ⟨sl3, e3⟩ := u5 p.1 _ e2 hnf
      exact ⟨sl3, e3⟩
end
section
open EpsOn EpsNf
theorem defErrC (w : World) (qa la tp ep1 ep2 : Nat) (t1 t2 t3 : Tok) (pre : Led) (m1 : (qa, listOf #[.int 1 t1] ep1) ∈ pre) (m2 : (la, listOf #[.ref tp] ep2) ∈ pre) (m3 : (tp, tupOf #[.int 0 t2, .int 1 t3] 0) ∈ pre) : RaiX w 165 [.ref qa, .ref la] 20 900 pre pre [] := by
  revert w qa la tp ep1 ep2 t1 t2 t3 pre m1 m2 m3
  intro w qa la tp ep1 ep2 t1 t2 t3 pre m1 m2 m3
  unfold RaiX
  intro p loose mean mg mb dp un gd cn cs a ccd outer A₀ base h₀ L m s Q E B F X N T hkd hd hu hret
  refine' call_clsK ?k1 ?k2 ?k3 ?k4 ?k5 ?k6 ?_
  (case k1 => k_asm); (case k2 => k_asm); (case k3 => k_asm); (case k4 => k_is); (case k5 => k_is); (case k6 => k_is)
  intro x' d' h' F' N' l1 l2 l3
  k_dflt (cell_ask [(Str.ofString "self", .ref x'), (Str.ofString "quanta", .ref qa), (Str.ofString "limits", .ref la)])
  rename_i g1 L1 h1 FG1 F1 N1 B1 X1 T1 hin1 l11
  k_with "con" => (refine hold ?_)
  k_with "raise" => (refine hold ?_)
  k_with "min" => (refine hold ?_)
  k_with "comp" => (refine hold ?_)
  k_steps
  · rename (_ : Int) ≠ _ => hx; simp at hx
  · rename List.isEmpty _ = true => hx; simp at hx
  · unfold Hold
    have hi : IntsAre [.int 1 t1] [1] := .cons _ _ .nil
    refine' min_led (ns := [1]) ?k0 ?k1 ?k2 ?k3 ?k4 ?k5 ?_
    (case k0 => with_unfolding_all rfl); (case k1 => k_asm); (case k2 => k_asm); (case k3 => k_mem); (case k4 => exact hi); (case k5 => exact Nat.zero_lt_succ _)
    intro h2 M tM tkM F2 N2 hM1 hM2
    have hM : M = 1 := by simpa using hM1
    subst hM
    have hoff : OwnOff pre [d'] := fun p hp b hb => by
      rw [List.mem_singleton.mp hb]; exact Nat.ne_of_lt (l1 p hp)
    have hoff2 : OwnOff pre [x'] := fun p hp b hb => by
      rw [List.mem_singleton.mp hb]; exact Nat.ne_of_lt (Nat.lt_trans (l1 p hp) l2)
    have nxd : NeA d' x' := Nat.ne_of_lt l2
    k_steps
    unfold Hold
    rename_i hT1 hN1
    refine ListComp_X (F₀ := by k_asm) (ax := la) (t := tp) (v₁ := .int 0 t2) (v₂ := .int 1 t3) (ep := ep2) (nt := 0) rfl (by with_unfolding_all rfl) (by decide) (by rfl) (by decide) (by rfl) (by rfl) (by decide) ?_
    k_steps
    unfold SrcX
    refine ⟨_, rfl, by k_asm, by k_asm, by k_mem, by k_mem, ?_⟩
    intro I oI C oC D m₂ h tk hC hx hx2 F2 N2 offC cI cD
    k_steps
    unfold Hold
    have zC := N2 (C, oC) (.tail _ (.head _))
    have hns9 := hC
    obtain ⟨esC, epC, hdC, _⟩ := hns9
    refine' rai_use (rowErr2 w t2 t3 _ pre [C] ?a ?b ?c) ?k1 ?k2 ?k3 ?k4 ?k5 ?kK ?kd ?ku ?_

    cell_call
    (case a => intro p hp; k_mem)
    (case b => intro p hp h; exact offC p (by k_mem) (List.mem_singleton.mp h))
    (case c => intro c hc; exact ⟨oC, by rw [List.mem_singleton.mp hc]; exact .tail _ (.head _)⟩)
    intro e g2 h3 tk3 B3 a1 FG2 x3 f3 u3 k3
    obtain ⟨sl, hsl⟩ := k3 (C, oC) (.tail _ (.head _)) (fun vs q => by rw [hdC] at q; cases q)
    refine comp_out (C := C) rfl rfl f3 (x3.hd C (.head _)) (fun hm => ?_) (LCg.NsObj.ns (show LCg.NsObj { oC with slots := sl } m₂ from hC) hsl) fun h4 fl any4 keep4 => ?_
    · rcases kts_mem hm with z | z
      · exact zC.2.1 z
      · obtain ⟨o, ho, _⟩ := (B1.frames.mem z).2
        rw [zC.2.2] at ho; cases ho
    dsimp only
    refine leave_any rfl rfl any4 fun h5 f5 u5 => ?_
    refine hret e g1 h5 _ B3 a1 FG1 ⟨x3.st, fun b o q nm => x3.sg b o (FG2.keep b o q) (fun hm => ?_), fun q hq => ⟨(x3.kp q hq).1, kts_none FG2.keep (x3.kp q hq).2.1, (x3.kp q hq).2.2⟩, fun _ h => (List.not_mem_nil h).elim⟩ f5 (fun b o hb hnf => ?_) (fun p hp hnf => ?_)
    · rcases kts_mem hm with z | z
      · rw [z, kts_self FG2] at q; cases q
      · exact nm z
    · obtain ⟨sl1, e1⟩ := u3 b o (FG2.keep b o hb) hnf
      obtain ⟨sl2, e2⟩ := keep4 b _ e1 (fun q => by rw [q, zC.2.2] at hb; cases hb) hnf
      obtain ⟨sl3, e3⟩ := u5 b _ e2 hnf
      exact ⟨sl3, e3⟩
    · obtain ⟨sl1, e1⟩ := k3 p (by k_mem) hnf
      obtain ⟨sl2, e2⟩ := keep4 p.1 _ e1 (offC p (by k_mem)) hnf
      obtain ⟨sl3, e3⟩ := u5 p.1 _ e2 hnf
      exact ⟨sl3, e3⟩
end
end
example : True := by
  k_with_none
  k_with "call ref" => (k_here; k_dflt (k_extra "con"))
  k_with "binaryOp FloorDiv int int" => (k_here; k_dflt (refine floordiv_int (by k_dflt (first | lia | omega)) ?_ (Or.inl (PyProof.noPylong_small (by k_dflt (first | lia | omega))))))
  k_with "subscriptTail Name Constant ref int" => (k_here; (with_reducible show wpAny _ _ (subscriptTail _ _ (Value.ref _) (Value.int _ _)) _ _ _); k_dflt (first | (kim_at) | (with_unfolding_all refine' itm_led ?z9N ?z9m ?z9a ?z9b ?z9x ?_ ?z9hs ?z9hg; (case z9N => k_asm); (case z9m => k_mem); (case z9a => decide); (case z9b => decide); (case z9x => first | assumption | rfl); (case z9hs => with_unfolding_all rfl); (case z9hg => intro _; with_unfolding_all rfl); k_whole) | (with_unfolding_all refine' tup_led ?z9N ?z9m ?z9a ?z9b ?z9j ?z9x ?_ ?z9hs ?z9hg; (case z9N => k_asm); (case z9m => k_mem); (case z9a => decide); (case z9b => decide); (case z9j => rfl); (case z9x => rfl); (case z9hs => with_unfolding_all rfl); (case z9hg => intro _; with_unfolding_all rfl); k_whole)))
  k_with "subscriptTail Name Name ref int" => (k_here; (with_reducible show wpAny _ _ (subscriptTail _ _ (Value.ref _) (Value.int _ _)) _ _ _); (with_unfolding_all refine' itm_led ?z9N ?z9m ?z9a ?z9b ?z9x ?_ ?z9hs ?z9hg; (case z9N => k_asm); (case z9m => k_mem); (case z9a => first | assumption | k_dflt (first | lia | omega)); (case z9b => k_dflt (first | lia | omega)); (case z9x => first | assumption | exact List.getElem?_set_self (by k_dflt (first | lia | omega))); (case z9hs => with_unfolding_all rfl); (case z9hg => intro _; with_unfolding_all rfl); k_whole))
  k_with "subscriptTail Name Subscript ref int" => (k_here; (with_reducible show wpAny _ _ (subscriptTail _ _ (Value.ref _) (Value.int _ _)) _ _ _); (with_unfolding_all refine' itm_led ?z9N ?z9m ?z9a ?z9b ?z9x ?_ ?z9hs ?z9hg; (case z9N => k_asm); (case z9m => k_mem); (case z9a => first | assumption | k_dflt (first | lia | omega)); (case z9b => k_dflt (first | lia | omega)); (case z9x => first | assumption | exact List.getElem?_set_self (by k_dflt (first | lia | omega))); (case z9hs => with_unfolding_all rfl); (case z9hg => intro _; with_unfolding_all rfl); k_whole))
  k_with "subscriptTail Attribute" => (k_here; k_dflt (refine kba_turn (value' := PySem.Expr.Name (PySem.Str.ofString "_") ⟨0, 0, 0, 0⟩) (fun _ => rfl) ?_))
  k_with "subscriptTail Subscript" => (k_here; k_dflt (refine kba_turn (value' := PySem.Expr.Name (PySem.Str.ofString "_") ⟨0, 0, 0, 0⟩) (fun _ => rfl) ?_))
  k_with "subscriptTail Call" => (k_here; k_dflt (refine kba_turn (value' := PySem.Expr.Name (PySem.Str.ofString "_") ⟨0, 0, 0, 0⟩) (fun _ => rfl) ?_))
  k_with "call builtin:len" => (k_here; (with_reducible show wpAny _ _ (call (Value.builtin "len") [Value.ref _]) _ _ _); k_dflt (refine' len_led ?z9k1 ?z9k2 ?z9k3 ?_; (case z9k1 => k_asm); (case z9k2 => k_mem); (case z9k3 => first | assumption | k_dflt (first | lia | omega) | (simp only [List.length_cons, List.length_nil]; k_dflt (first | lia | omega))); k_whole))
  k_with "compareOp Eq ref ref" => (k_here; (with_reducible show wpAny _ _ (compareOp CmpOp.Eq (Value.ref _) (Value.ref _)) _ _ _); k_dflt (refine' eq_nil_led ?z9k1 ?z9k2 ?z9k3 ?z9k4 ?_; (case z9k1 => k_asm); (case z9k2 => k_mem); (case z9k3 => k_mem); (case z9k4 => ktr_units); k_whole))
  k_with "compareOp NotEq ref ref" => (k_here; (with_reducible show wpAny _ _ (compareOp CmpOp.NotEq (Value.ref _) (Value.ref _)) _ _ _); k_dflt (refine' ne_nil_led ?z9k1 ?z9k2 ?z9k3 ?z9k4 ?_; (case z9k1 => k_asm); (case z9k2 => k_mem); (case z9k3 => k_mem); (case z9k4 => ktr_units); k_whole))
  k_with "call builtin:list.pop" => (k_here; (with_reducible show wpAny _ _ (call (Value.builtin _) [Value.ref _, Value.int _ _]) _ _ _); k_dflt (refine' pop0_led ?z9F ?z9N ?z9U ?z9z ?_; (case z9F => k_asm); (case z9N => k_asm); (case z9U => k_upd); (case z9z => first | assumption | k_dflt (first | lia | omega)); k_whole); cell_end 21 0 0; (try k_sweep))
  k_with "call builtin:sum" => (k_here; (with_reducible show wpAny _ _ (call (Value.builtin "sum") [Value.ref _]) _ _ _); k_dflt (refine' sum_led ?z9k0 ?z9k1 ?z9k2 ?z9k3 ?z9k4 ?_; (case z9k0 => with_unfolding_all rfl); (case z9k1 => k_asm); (case z9k2 => k_asm); (case z9k3 => k_mem); (case z9k4 => assumption); k_whole); cell_end 22 0 0; (try k_sweep))
  k_with "eval ListComp" => (k_here; (with_reducible show wpAny _ _ (eval (Expr.ListComp _ [Comprehension.mk _ _ [] _] _ _) _) _ _ _); k_dflt (refine LCg.ListComp_U (F₀ := by k_asm) (by with_unfolding_all rfl) (by decide) (by rfl) (by decide) (by rfl) ?_))
  k_with "eval ListComp" => (k_here; (with_reducible show wpAny _ _ (eval (Expr.ListComp _ [Comprehension.mk _ _ [_] _] _ _) _) _ _ _); k_dflt (refine LCt.ListComp_T (F₀ := by k_asm) (by with_unfolding_all rfl) (by decide) (by rfl) (by decide) (by rfl) ?_))
  k_with "CompSrc" => (k_here; k_dflt (refine' LCg.CompSrc.ledger ?z9kh ?z9kF ?z9kN ?z9km ?_ ?_; (case z9kh => rfl); (case z9kF => k_asm); (case z9kN => k_asm); (case z9km => k_mem); rotate_left; cell_end 24 0 0; (try dsimp only); k_extra "rest"))
  k_with "call builtin:max" => (k_here; (with_reducible show wpAny _ _ (call (Value.builtin "max") [Value.int _ _, Value.int _ _]) _ _ _); k_dflt (refine' max2_led ?z9k0 ?z9k1 ?z9k2 ?_; (case z9k0 => with_unfolding_all rfl); (case z9k1 => k_asm); (case z9k2 => k_asm); k_whole); cell_end 22 0 0; (try k_sweep))
  k_with "call builtin:min" => (k_here; (with_reducible show wpAny _ _ (call (Value.builtin "min") [Value.int _ _, Value.int _ _]) _ _ _); k_dflt (refine' min2_led ?z9k0 ?z9k1 ?z9k2 ?_; (case z9k0 => with_unfolding_all rfl); (case z9k1 => k_asm); (case z9k2 => k_asm); k_whole); cell_end 22 0 0; (try k_sweep))
  k_with "binaryOp Mult ref int" => (k_here; (with_reducible show wpAny _ _ (binaryOp Operator.Mult (Value.ref _) (Value.int _ _)) _ _ _); k_dflt (refine' mulrep_led ?z9k1 ?z9k2 ?z9k3 ?z9k4 ?z9k5 ?_; (case z9k1 => k_asm); (case z9k2 => k_asm); (case z9k3 => k_mem); (case z9k4 => k_dflt (first | lia | omega)); (case z9k5 => k_dflt (first | lia | omega)); k_whole); cell_end 23 0 0; (try k_sweep))
  k_with "setItem ref int" => (k_here; k_dflt (refine' set_led ?z9k1 ?z9k2 ?z9k3 ?z9k4 ?z9k5 ?z9k6 ?_; (case z9k1 => k_asm); (case z9k2 => k_asm); (case z9k3 => k_upd); (case z9k4 => first | assumption | k_dflt (first | lia | omega)); (case z9k5 => first | assumption | k_dflt (first | lia | omega)); (case z9k6 => k_dflt (first | lia | omega)); k_whole); cell_end 21 0 0; (try k_sweep))
  k_with "newList" => (k_here; k_dflt (refine' newList_K ?z9k1 ?z9k2 ?_; (case z9k1 => k_asm); (case z9k2 => k_asm); k_whole); cell_end 23 0 0; (try k_sweep))
  k_with "newTuple" => (k_here; k_dflt (refine' kup_newTuple ?z9k1 ?z9k2 ?_ ?z9kz; (case z9k1 => k_asm); (case z9k2 => k_asm); (case z9kz => exact Nat.le_of_ble_eq_true rfl); k_whole); cell_end 23 0 0; (try k_sweep))
  k_with "call builtin:list.append" => (k_here; (with_reducible show wpAny _ _ (call (Value.builtin _) [Value.ref _, _]) _ _ _); k_dflt (refine' append_led ?z9k1 ?z9k2 ?z9k3 ?z9k4 ?_; (case z9k1 => k_asm); (case z9k2 => k_asm); (case z9k3 => k_upd); (case z9k4 => first | assumption | k_dflt (first | lia | omega)); k_whole); cell_end 21 0 0; (try k_sweep))
  k_with "exec Assign cons ListComp" => (k_here; (with_reducible show wpAny _ _ (exec (Stmt.Assign [_] (Expr.ListComp _ [Comprehension.mk _ _ [_] _] _ _) _) _) _ _ _); k_dflt (refine LCt.Assign_ListComp_T (F₀ := by k_asm) (by rfl) (by with_unfolding_all rfl) (by with_unfolding_all rfl) (by decide) (by rfl) (by decide) (by rfl) (by rfl) (by rfl) ?_))
  k_with "exec Assign cons ListComp" => (k_here; (with_reducible show wpAny _ _ (exec (Stmt.Assign [_] (Expr.ListComp _ [Comprehension.mk _ _ [] _] _ _) _) _) _ _ _); k_dflt (refine LCg.Assign_ListComp_U (F₀ := by k_asm) (by rfl) (by with_unfolding_all rfl) (by with_unfolding_all rfl) (by decide) (by rfl) (by decide) (by rfl) (by rfl) (by rfl) ?_))
  k_with "CompSrcT" => (k_here; k_dflt (refine LCt.CompSrcT.range (by rfl) (by k_asm) (by k_asm) (by assumption) (small_one (by k_dflt (first | lia | omega)) (by k_dflt (first | lia | omega)) (by k_dflt (first | lia | omega)) (by k_dflt (first | lia | omega))) (rangeSize_nat _ _) ?_ ?_; rotate_left; cell_end 24 0 0; (try dsimp only); k_extra "restT"))
  k_with "binaryOp Add ref ref" => (k_here; (with_reducible show wpAny _ _ (binaryOp _ (Value.ref _) (Value.ref _)) _ _ _); k_dflt (refine' addT_led ?z9k1 ?z9k2 ?z9k3 ?z9k4 ?z9k5 ?z9k6 ?z9k7 ?z9k8 ?_; (case z9k1 => k_asm); (case z9k2 => k_asm); (case z9k3 => k_mem); (case z9k4 => k_mem); (case z9k5 => exact rfl); (case z9k6 => exact List.cons_ne_nil _ _); (case z9k7 => exact List.cons_ne_nil _ _); (case z9k8 => exact Nat.le_of_ble_eq_true rfl); k_whole); cell_end 23 0 0; (try k_sweep))
  k_with "call builtin:min" => (k_here; (with_reducible show wpAny _ _ (call (Value.builtin "min") [Value.ref _]) _ _ _); k_dflt (k_extra "min"))
  k_with "CompSrcT" => (k_here; k_dflt (refine' LCt.CompSrcT.ledger ?z9kh ?z9kF ?z9kN ?z9km ?_ ?_; (case z9kh => rfl); (case z9kF => k_asm); (case z9kN => k_asm); (case z9km => k_mem); rotate_left; cell_end 24 0 0; (try dsimp only); k_extra "restT"))
  k_with "subscriptTail Name Constant ref str" => (k_here; (with_reducible show wpAny _ _ (subscriptTail _ _ (Value.ref _) (Value.str _ _)) _ _ _); k_dflt (refine' kda_item (knd := PySem.strKind _ _) ?z9N ?z9hp ?z9hd (strKind_is _ _ _ _) ?z9hl ?_ ?z9hs ?z9hg; (case z9N => k_asm); (case z9hp => k_mem); (case z9hd => assumption); (case z9hl => rfl); (case z9hs => with_unfolding_all rfl); (case z9hg => intro _; with_unfolding_all rfl)); k_whole)
  k_with "setItem ref str" => (k_here; k_dflt (refine' kda_set (knd := PySem.strKind _ _) ?z9F ?z9N ?z9U ?z9d (strKind_is _ _ _ _) ?z9z ?_; (case z9F => k_asm); (case z9N => k_asm); (case z9U => k_updF); (case z9d => assumption); (case z9z => rw [sizeLine_eq]; exact Nat.le_of_ble_eq_true (by with_unfolding_all rfl))); cell_end 25 0 0)
  k_with "exec For Tuple Call" => (k_here; k_dflt (refine' For_turns ?z9lF ?_; (case z9lF => k_asm); k_whole))
  k_with "call type:enumerate" => (k_here; k_dflt (refine' ktu_enum ?z9hh ?z9F ?z9N ?z9hm ?z9hc ?z9hd ?z9hx ?_; (case z9hh => rfl); (case z9F => k_asm); (case z9N => k_asm); (case z9hm => k_mem); (case z9hc => rfl); (case z9hd => rfl); (case z9hx => rfl); k_extra "items"))
  k_with "compareOp NotEq ref ref" => (k_here; (with_reducible show wpAny _ _ (compareOp CmpOp.NotEq (Value.ref _) (Value.ref _)) _ _ _); k_dflt (first | (refine' ne_nil_led ?z9k1 ?z9k2 ?z9k3 ?z9k4 ?_; (case z9k1 => k_asm); (case z9k2 => k_mem); (case z9k3 => k_mem); (case z9k4 => ktr_units)) | (refine' ne_tup2 ?z9k1 ?z9k2 ?z9k3 ?z9k4 ?_; (case z9k1 => k_asm); (case z9k2 => k_mem); (case z9k3 => k_mem); (case z9k4 => ktr_units)) | (refine' ne_tup3 ?z9k1 ?z9k2 ?z9k3 ?z9k4 ?_; (case z9k1 => k_asm); (case z9k2 => k_mem); (case z9k3 => k_mem); (case z9k4 => ktr_units))); k_whole)
  k_with "exec For Name Name cons nil" => (k_here; k_dflt (refine' For_turns ?z9lF ?_; (case z9lF => k_asm); k_whole))
  k_with "exec For Name Call cons nil" => (k_here; k_dflt (refine' For_turns ?z9lF ?_; (case z9lF => k_asm); k_whole))
  k_with "pyIter ref" => (k_here; (with_reducible show wpAny _ _ (pyIter (Value.ref _)) (fun it s₂ => TurnsAt _ _ _ _ _ _ _ _ _ it s₂) _ _); k_dflt (first | (refine' iter_rangeTurns ?z9hh ?z9hr ?z9hs ?z9hn ?z9F ?z9N ?_; (case z9hh => rfl); (case z9hr => assumption); (case z9hs => first | decide | exact small_one (by k_dflt (first | lia | omega)) (by k_dflt (first | lia | omega)) (by k_dflt (first | lia | omega)) (by k_dflt (first | lia | omega))); (case z9hn => exact rangeSize_nat _ _); (case z9F => k_asm); (case z9N => k_asm); k_extra "items") | (refine' iter_listTurns ?z9hh ?z9F ?z9N ?z9hm ?z9hc ?z9hd ?_; (case z9hh => rfl); (case z9F => k_asm); (case z9N => k_asm); (case z9hm => k_mem); (case z9hc => rfl); (case z9hd => rfl); k_extra "items")))
  k_with "exec While Compare cons nil" => (k_here; k_dflt (k_extra "while"))
  k_with "exec While Constant cons nil" => (k_here; k_dflt (k_extra "while"))
  k_with "UnrEndW" => refine hold ?_
  k_with "eval ListComp" => (k_here; (with_reducible show wpAny _ _ (eval (Expr.ListComp _ [Comprehension.mk (Expr.Tuple _ _ _) _ [] _] _ _) _) _ _ _); k_dflt (refine LCp.ListComp_P (F₀ := by k_asm) (by with_unfolding_all rfl) (by decide) (by rfl) (by decide) (by rfl) (by rfl) (by decide) ?_))
  k_with "SrcLP" => (k_here; k_dflt (refine' LCp.SrcLP.ledger ?z9kh ?z9kF ?z9kN ?z9km ?_ ?_; (case z9kh => rfl); (case z9kF => k_asm); (case z9kN => k_asm); (case z9km => k_mem); rotate_left; cell_end 24 0 0; (try dsimp only); k_extra "restP"))
  k_with "exec Raise some none" => (k_here; k_dflt (k_extra "raise"))
  k_with "CompSrc" => (k_here; k_dflt (refine LCg.CompSrc.range (by rfl) (by k_asm) (by k_asm) (by assumption) (small_one (by k_dflt (first | lia | omega)) (by k_dflt (first | lia | omega)) (by k_dflt (first | lia | omega)) (by k_dflt (first | lia | omega))) (rangeSize_nat _ _) ?_ ?_; rotate_left; cell_end 24 0 0; (try dsimp only); k_extra "rest"))
  k_with "subscriptTail List Call ref int" => (k_here; k_dflt (k_extra "menu"))
  k_with "exec For Tuple Subscript cons nil" => (k_here; k_dflt (refine' For_turns ?z9lF ?_; (case z9lF => k_asm); k_whole))
  k_with "subscriptTail Name Slice ref ref" => (k_here; (with_reducible show wpAny _ _ (subscriptTail _ (PySem.Expr.Slice (some _) none none _) (Value.ref _) (Value.ref _)) _ _ _); k_dflt (refine' slice_led ?z9F ?z9N ?z9l ?z9x ?z9z ?_ ?z9s ?z9t; (case z9F => k_asm); (case z9N => k_asm); (case z9l => k_mem); (case z9x => k_dflt (first | lia | omega)); (case z9z => first | assumption | k_dflt (first | lia | omega)); (case z9s => with_unfolding_all rfl); (case z9t => kmk_pure)); cell_end 23 0 0; (try k_sweep))
  k_with "k_mem" => (first | exact List.Mem.head _ | (refine' List.Mem.tail _ ?_; k_mem) | assumption)
  k_with "ask2" => ((case kA => exact rfl); (case kF => exact rfl); (case kK => assumption); (case k1 => k_asm); (case k2 => k_asm); (case k3 => k_asm); (case k4 => k_asm); (case k5 => k_asm); (case k6 => k_is); (case k7 => k_is); (case k8 => ktr_room); (case k9 => first | exact BindsTo.of_eq rfl | exact binds_K (by k_in) rfl (by k_is) rfl rfl rfl); (case c5 => decide); (case kB => exact locs rfl); (case c2 => exact rfl); (case c3 => exact rfl); (case c4 => exact rfl); k_whole)
  k_with "askC2" => ((case kA => exact rfl); (case kF => exact rfl); (case kK => assumption); (case k1 => k_asm); (case k2 => k_asm); (case k3 => k_asm); (case k4 => k_asm); (case k5 => k_asm); (case k6 => k_is); (case k7 => k_is); (case k8 => ktr_room); (case k9 => first | exact BindsTo.of_eq rfl | exact binds_K (by k_in) rfl (by k_is) rfl rfl rfl); (case kB => exact rfl); (case kD => decide +kernel); (case c2 => exact rfl); (case c3 => exact rfl); (case c4 => exact rfl); k_whole)
  k_with "cell_call" => ((case k1 => k_asm); (case k2 => k_asm); (case k3 => k_asm); (case k4 => k_asm); (case k5 => k_asm); (case kK => first | exact rfl | assumption); (case kd => ktr_room); (case ku => ktr_units))
  k_with "k_all" => (first | exact List.forall_mem_nil _ | (refine List.forall_mem_cons.mpr ⟨?_, ?_⟩; (focus k_ne); k_all) | exact OwnOff.ne (by with_reducible assumption) (by k_memK) | exact fresh_ne (by with_reducible assumption) (by intro p hp; k_mem))
  k_with "k_ne" => (first | ((try dsimp only); first | (refine' NeA.ne ?z5h; (case z5h => with_reducible assumption)) | (refine' NeA.en ?z5h; (case z5h => with_reducible assumption)) | (refine' fresh1 ?z5h ?z5m; (case z5h => with_reducible assumption); (case z5m => k_mem)) | (refine' fresh2 ?z5h ?z5m; (case z5h => with_reducible assumption); (case z5m => k_mem))) | (refine neN ?_; (try dsimp only); k_dflt (first | lia | omega)))
  k_with "lcg_sub" => (first | exact List.forall_mem_nil _ | (refine List.forall_mem_cons.mpr ⟨?_, ?_⟩; (focus k_mem); lcg_sub) | (intro p hp; k_mem))
  k_with "ke_reads" => (first | exact List.forall_mem_nil _ | (refine List.forall_mem_cons.mpr ⟨?_, ?_⟩; (focus k_all); ke_reads))
  k_with "cell_step" => (cell_call; (case kp => lcg_src); (case ko => ke_reads))
  k_with "k_in" => (first | k_in_fast | with_reducible assumption | (with_reducible (refine' in_fr ?z4F ?z4X; (case z4F => assumption); (case z4X => assumption))))
  k_with "ends" => ((case F1 => k_asm); (case N1 => k_asm); (case s1 => first | exact fun _ hp => hp | exact fun _ hp => List.Mem.tail _ hp | exact fun _ hp => List.Mem.tail _ (List.Mem.tail _ hp) | lcg_sub))
  k_with "ne" => (first | infer_instance | exact neWorld | exact neShared | exact neAround | exact neParams | exact neItm | exact ⟨default⟩)
  k_with "ep" => (refine @all_epA _ (by k_extra "ne") _ ?_)
  k_with "epq" => (clear zq)
  k_with "epx" => (have zk := @epE_spec _ (by k_extra "ne") _ zh; clear zh)
  k_with "epe" => (replace zk := exE zk)
  k_with "epa" => (have zj := And.left zh; have zk := And.right zh; clear zh)
  k_with "epj" => (clear zj)
  k_with "epk" => (clear zk)
  k_with "cx" => (refine @all_epA _ neCx _ ?_; generalize epA _ _ = zc; refine exI ?_; generalize Cx.p zc = p, Cx.loose zc = loose, Cx.mean zc = mean, Cx.mg zc = mg, Cx.mb zc = mb, Cx.dp zc = dp, Cx.un zc = un, Cx.gd zc = gd, Cx.cn zc = cn, Cx.cs zc = cs, Cx.a zc = a, Cx.ccd zc = ccd, Cx.cl zc = cl, Cx.outer zc = outer, Cx.A₀ zc = A₀, Cx.base zc = base, Cx.h₀ zc = h₀, Cx.L zc = L, Cx.m zc = m, Cx.s zc = s, Cx.Q zc = Q, Cx.E zc = E; clear zc)
  k_with "cxa" => (refine @all_epA _ neCx _ ?_; generalize epA _ _ = zc; refine exI ?_; generalize Cx.p zc = p, Cx.loose zc = loose, Cx.mean zc = mean, Cx.mg zc = mg, Cx.mb zc = mb, Cx.dp zc = dp, Cx.un zc = un, Cx.gd zc = gd, Cx.cn zc = cn, Cx.cs zc = cs, Cx.a zc = ac, Cx.ccd zc = ccd, Cx.cl zc = cl, Cx.outer zc = outer, Cx.A₀ zc = A₀, Cx.base zc = base, Cx.h₀ zc = h₀, Cx.L zc = L, Cx.m zc = m, Cx.s zc = s, Cx.Q zc = Q, Cx.E zc = E; clear zc)
  k_with "i2" => (refine all_2 ?_ ?_; (focus (repeat' (first | exact neWorld | exact neShared | exact neAround | exact neParams | exact neItm | refine nePr ?_ ?_ | infer_instance | exact ⟨default⟩))); generalize ep2 _ _ = zq; refine ex2 ?_)
  k_with "i3" => (refine all_3 ?_ ?_; (focus (repeat' (first | exact neWorld | exact neShared | exact neAround | exact neParams | exact neItm | refine nePr ?_ ?_ | infer_instance | exact ⟨default⟩))); generalize ep3 _ _ = zq; refine ex3 ?_)
  k_with "i4" => (refine all_4 ?_ ?_; (focus (repeat' (first | exact neWorld | exact neShared | exact neAround | exact neParams | exact neItm | refine nePr ?_ ?_ | infer_instance | exact ⟨default⟩))); generalize ep4 _ _ = zq; refine ex4 ?_)
  k_with "i5" => (refine all_5 ?_ ?_; (focus (repeat' (first | exact neWorld | exact neShared | exact neAround | exact neParams | exact neItm | refine nePr ?_ ?_ | infer_instance | exact ⟨default⟩))); generalize ep5 _ _ = zq; refine ex5 ?_)
  k_with "i6" => (refine all_6 ?_ ?_; (focus (repeat' (first | exact neWorld | exact neShared | exact neAround | exact neParams | exact neItm | refine nePr ?_ ?_ | infer_instance | exact ⟨default⟩))); generalize ep6 _ _ = zq; refine ex6 ?_)
  k_with "i7" => (refine all_7 ?_ ?_; (focus (repeat' (first | exact neWorld | exact neShared | exact neAround | exact neParams | exact neItm | refine nePr ?_ ?_ | infer_instance | exact ⟨default⟩))); generalize ep7 _ _ = zq; refine ex7 ?_)
  k_with "i8" => (refine all_8 ?_ ?_; (focus (repeat' (first | exact neWorld | exact neShared | exact neAround | exact neParams | exact neItm | refine nePr ?_ ?_ | infer_instance | exact ⟨default⟩))); generalize ep8 _ _ = zq; refine ex8 ?_)
  k_with "eph" => (clear zh)
  k_with "sub" => (first | exact sub_nil | (refine sub_cons ?_ ?_; (focus (k_extra "mem")); k_extra "sub") | (refine sub_app ?_ ?_; (focus (k_extra "sub")); k_extra "sub") | k_extra "incl")
  k_with "mem" => (with_reducible (first | exact List.mem_cons_self .. | (refine List.mem_cons_of_mem _ ?_; k_extra "mem") | (refine List.mem_append_left _ ?_; k_extra "mem") | (refine List.mem_append_right _ ?_; k_extra "mem") | assumption))
  k_with "incl" => (with_reducible (first | exact fun _ h => h | (refine sub_tail ?_; k_extra "incl") | (refine sub_left ?_; k_extra "incl") | (refine sub_right ?_; k_extra "incl")))
  k_with "room" => ((try dsimp only [depth_under_make, depth_under_kw, depth_in1, depth_deeper, depth_caller, ktrTop]); first | exact room_lt0 (by assumption) | exact room_lt (by assumption) (by decide) | exact room_lt2 (by assumption) (by decide) | exact room_lt3 (by assumption) (by decide))
  k_with "units" => ((try dsimp only [units_in1, units_deeper, Around.mark_units, units_caller, ktrTop]); first | exact room_lt0 (by assumption) | exact room_lt (by assumption) (by decide) | exact room_lt2 (by assumption) (by decide) | exact room_lt3 (by assumption) (by decide))
  trivial
-- Refu
example : True := by
  w_top off
  trivial
section
noncomputable def ConS (w : World) (f : Addr) (vs : List Value) (dn un0 : Nat) (pre : Led) (v : Value) : Prop :=
  ∀ (p : Program) (loose : List Str) (mean : ExcName → Option Value) (mg mb : Str → Option Value)
    (dp un : Nat) (gd : Option (List Code)) (cn : Str) (cs : Scope) (a : Addr) (ccd : Value) (A₀ : Around) (base h₀ : Heap) (L : Addr) (m : Str → Option Value)
    (s : Shared) (Q E : Value → Shared → Prop),
    Below A₀ base [] h₀ → Fr h₀ L s.heap m → (Mine.hd.heap_1 w.params).In h₀ → News h₀ L s.heap pre → Top p loose mean mg mb h₀ → (Mine.hd.heap_1 w.params).In base → Top p loose mean mg mb base → cs.kind = .function →
    dp + dn < recursionLimit → un + un0 < cLine → (∀ h' tk, Fr h₀ L h' m → News h₀ L h' pre → Q v { s with heap := h', toks := tk }) →
    wpAny (model pw w) (ktrTop dp un gd cn cs L a ccd [] []) (call (.ref f) vs) Q E s
theorem refu_con (w : World) (qa la : Nat) (pre : Led) (R : RaiX w 165 [.ref qa, .ref la] 20 900 pre pre []) : ConS w 397 [.ref qa, .ref la] 30 1200 pre (.bool true) := by
  unfold ConS
  intro p loose mean mg mb dp un gd cn cs a ccd A₀ base h₀ L m s Q E B F X N T XB TB hk hd hu hret
  refine wpAny_call ?_
  k_dflt (refine' code_defS0 (binds := [(Str.ofString "quanta", .ref qa), (Str.ofString "limits", .ref la)]) ?k1 ?k2 ?k3 ?k4 ?k5 ?kA ?k6 ?k7 ?k8 ?k9 ?kB ?_ ?cK ?c2 ?c3 ?c4 ?c5)
  (case kA => exact rfl); (case k2 => k_asm); (case k1 => k_asm); (case k3 => k_asm); (case k4 => k_asm); (case k5 => k_asm); (case k6 => k_is); (case k7 => k_is); (case k8 => ktr_room); (case k9 => exact BindsTo.of_eq rfl); (case kB => exact locs rfl); (case cK => exact hk); (case c2 => exact rfl); (case c3 => exact rfl); (case c4 => exact rfl); (case c5 => decide)
  k_whole
  intro g1 L1 h1 FG1 F1 N1 B1 X1 T1 D1
  (try dsimp only); (try k_lift B1); (try k_fold)
  k_with "con" => (refine hold ?_)
  k_steps
  unfold Hold
  refine' rai_use R ?k1 ?k2 ?k3 ?k4 ?k5 ?kK ?kd ?ku ?_
  cell_call
  intro e g2 h3 tk3 B3 a1 FG2 x3 f3 u3 k3
  have R3 := x3.raised f3
  clear x3 f3 k3
  dsimp only
  k_steps
  exact hret _ _ (by assumption) (by assumption)
end
-- Dr
example : True := by
  w_top off
  trivial
section
noncomputable def bi : Bool → Int
  | false => 0
  | true => 1
set_option genInjectivity false in
structure DrT where
  (h1 h2 h3 h4 h5 : Int) (k1 k2 k3 k4 k5 : Nat)
  deriving Inhabited
noncomputable abbrev drD (T : DrT) (qa ra la : Addr) (at_ : Int) (ta : Nat) (bg : Bool) : Obj := dictOf [⟨T.h1, .str (Str.ofString "quanta") T.k1, .ref qa⟩, ⟨T.h2, .str (Str.ofString "rows") T.k2, .ref ra⟩, ⟨T.h3, .str (Str.ofString "left") T.k3, .ref la⟩,
  ⟨T.h4, .str (Str.ofString "at") T.k4, .int at_ ta⟩, ⟨T.h5, .str (Str.ofString "is_begun") T.k5, .bool bg⟩] 5
set_option genInjectivity false in
structure DrS where
  (q0 q1 : Int) (i0 i1 : List It) (l0 l1 : Int) (at_ bg : Bool)
  deriving Inhabited
set_option genInjectivity false in
structure DrI where
  (qd qa ra la : Nat) (T : DrT) (ta uq0 uq1 u0 u1 e1 e2 e3 : Nat) (x0 x1 : RowI)
  deriving Inhabited
noncomputable def RowI.mut (x : RowI) : Led := [(x.rd, rowD x.RT x.t1 x.t2 x.t4 x.t5 x.most x.mo x.t x.oct x.drop), (x.t, listOf x.its.toArray x.ep)]
noncomputable abbrev drM (I : DrI) (S : DrS) : Led := [(I.qd, drD I.T I.qa I.ra I.la (bi S.at_) I.ta S.bg), (I.la, listOf #[.int S.l0 I.u0, .int S.l1 I.u1] I.e3),
  (I.x0.rd, rowD I.x0.RT I.x0.t1 I.x0.t2 I.x0.t4 I.x0.t5 I.x0.most I.x0.mo I.x0.t I.x0.oct I.x0.drop), (I.x0.t, listOf I.x0.its.toArray I.x0.ep),
  (I.x1.rd, rowD I.x1.RT I.x1.t1 I.x1.t2 I.x1.t4 I.x1.t5 I.x1.most I.x1.mo I.x1.t I.x1.oct I.x1.drop), (I.x1.t, listOf I.x1.its.toArray I.x1.ep)]
noncomputable abbrev drA (I : DrI) : List Nat := [I.qd, I.la, I.x0.rd, I.x0.t, I.x1.rd, I.x1.t]
set_option genInjectivity false in
structure DrOk (q : Nat) (I : DrI) (S : DrS) (P : Led) : Prop where
  p1 : (q, instObj 165 I.qd) ∈ P
  p2 : (I.qa, listOf #[.int S.q0 I.uq0, .int S.q1 I.uq1] I.e1) ∈ P
  p3 : (I.ra, listOf #[.ref I.x0.r, .ref I.x1.r] I.e2) ∈ P
  p4 : (I.x0.r, instObj 106 I.x0.rd) ∈ P
  p5 : (I.x1.r, instObj 106 I.x1.rd) ∈ P
  e0 : ItsAre P I.x0.its S.i0
  e1 : ItsAre P I.x1.its S.i1
  o0 : I.x0.most = 20 ∧ I.x0.mo = 200 ∧ I.x0.oct = (S.i0.map It.size).sum
  o1 : I.x1.most = 20 ∧ I.x1.mo = 200 ∧ I.x1.oct = (S.i1.map It.size).sum
  nd : (drA I).Nodup
  off : OwnOff P (drA I)
noncomputable def DrAt (q : Nat) (S : DrS) (W : Led) : Prop := ∃ I P, W = drM I S ++ P ∧ DrOk q I S P
theorem nd6 {a b c d e f : Nat} (h : [a, b, c, d, e, f].Nodup) : NeA a b ∧ NeA a c ∧ NeA a d ∧ NeA a e ∧ NeA a f ∧ NeA b c ∧ NeA b d ∧ NeA b e ∧ NeA b f ∧ NeA c d ∧ NeA c e ∧ NeA c f ∧ NeA d e ∧ NeA d f ∧ NeA e f := by
  simp at h; exact ⟨h.1.1, h.1.2.1, h.1.2.2.1, h.1.2.2.2.1, h.1.2.2.2.2, h.2.1.1, h.2.1.2.1, h.2.1.2.2.1, h.2.1.2.2.2, h.2.2.1.1, h.2.2.1.2.1, h.2.2.1.2.2, h.2.2.2.1.1, h.2.2.2.1.2, h.2.2.2.2⟩
theorem off_cons {x : Nat} {o : Obj} {P : Led} {ad : List Nat} (h : OwnOff P ad) (hx : ∀ b ∈ ad, x ≠ b) : OwnOff ((x, o) :: P) ad := fun p hp b hb => by
  rcases List.mem_cons.mp hp with rfl | hp
  · exact hx b hb
  · exact h p hp b hb
section
open EpsOn EpsNf
theorem drPut0 (w : World) (q : Nat) (S : DrS) (W : Led) (size : Int) (tk ts : VTok) (th : Value) (hl : S.i0.length < 20) (ho : (S.i0.map It.size).sum + size ≤ 200) (hR : DrAt q S W) :
    Con w 136 [.ref q, .int 0 tk, .int size ts, th] 3 30 W (fun v post => v = .bool true ∧ DrAt q { S with i0 := S.i0 ++ [⟨0, size, th⟩] } post) := by
  revert w q S W size tk ts th hl ho hR
  intro w q S W size tk ts th hl ho hR
  obtain ⟨I, P, rfl, h⟩ := hR
  refine con_cx ?_
  k_extra "cxa"
  intro BB F0 X N TT hk hd hu hret
  obtain ⟨n1, n2, n3, n4, n5, n6, n7, n8, n9, n10, n11, n12, n13, n14, n15⟩ := nd6 h.nd
  have off := h.off
  have p1 := h.p1
  have p2 := h.p2
  have p3 := h.p3
  have p4 := h.p4
  have p5 := h.p5
  have hx0 : ([.ref I.x0.r, .ref I.x1.r] : List Value)[Int.toNat 0]? = some (.ref I.x0.r) := rfl
  have hln := h.e0.len
  obtain ⟨om, oo, oc⟩ := h.o0
  refine wpAny_call ?_
  simp only [drM, List.cons_append, List.nil_append] at N ⊢
  k_dflt (cell_ask [(Str.ofString "self", .ref q), (Str.ofString "number", .int 0 tk), (Str.ofString "size", .int size ts), (Str.ofString "thing", th)])
  k_with "con" => (refine hold ?_)
  k_steps
  unfold Hold
  refine' con_m (rowPut_con w I.x0.r I.x0.rd I.x0.t I.x0.RT I.x0.t1 I.x0.t2 I.x0.t4 I.x0.t5 I.x0.most I.x0.mo I.x0.oct I.x0.drop size I.x0.its I.x0.ep ts th (by (first | lia | omega))) ?k1 ?k2 ?k3 ?k4 ?k5 ?kK ?kp ?kr ?ko ?kd ?ku ?_
  cell_call
  (case kp => lcg_src)
  (case kr => lcg_sub)
  (case ko => ke_reads)
  intro r' W' h' tk' hP' F' N' fr'
  obtain ⟨t4', t5', hP'⟩ := hP'
  rcases hP' with ⟨_, _, x, ep', rfl, rfl⟩ | ⟨hno, _⟩
  case inr => exact absurd ⟨by (first | lia | omega), by (first | lia | omega)⟩ hno
  (try simp only [List.cons_append, List.nil_append] at N')
  clear fr'
  have y1 := led_ne N' (a := x) (b := I.qd) (by k_mem) (by k_mem)
  have y2 := led_ne N' (a := x) (b := I.la) (by k_mem) (by k_mem)
  have y3 := led_ne N' (a := x) (b := I.x0.rd) (by k_mem) (by k_mem)
  have y4 := led_ne N' (a := x) (b := I.x0.t) (by k_mem) (by k_mem)
  have y5 := led_ne N' (a := x) (b := I.x1.rd) (by k_mem) (by k_mem)
  have y6 := led_ne N' (a := x) (b := I.x1.t) (by k_mem) (by k_mem)
  have fin : DrAt q { S with i0 := S.i0 ++ [⟨0, size, th⟩] } (drM { I with x0 := { I.x0 with t4 := t4', t5 := t5', oct := I.x0.oct + size, its := I.x0.its ++ [.ref x], ep := ep' } } { S with i0 := S.i0 ++ [⟨0, size, th⟩] } ++ (x, tupOf #[.int size ts, th] 0) :: P) := by
    refine ⟨_, _, rfl, .tail _ p1, .tail _ p2, .tail _ p3, .tail _ p4, .tail _ p5, ?_, ?_, ?_, ?_, h.nd, off_cons off ?_⟩
    · exact ItsAre.snoc (it := ⟨0, size, th⟩) (h.e0.mono fun _ _ _ hm => .tail _ hm) (ts := ts) (.head _)
    · exact h.e1.mono fun _ _ _ hm => .tail _ hm
    · exact ⟨om, oo, by show I.x0.oct + size = _; rw [oc]; simp⟩
    · exact h.o1
    · intro b hb
      simp only [drA, List.mem_cons, List.not_mem_nil, or_false] at hb
      rcases hb with rfl | rfl | rfl | rfl | rfl | rfl
      · exact y1
      · exact y2
      · exact y3
      · exact y4
      · exact y5
      · exact y6
  k_steps
  exact con_end hret (by assumption) (by assumption) (by assumption) (by assumption) (by assumption) _ (by lcg_sub) ⟨rfl, fin⟩
end
section
open EpsOn EpsNf
theorem drPut1 (w : World) (q : Nat) (S : DrS) (W : Led) (size : Int) (tk ts : VTok) (th : Value) (hl : S.i1.length < 20) (ho : (S.i1.map It.size).sum + size ≤ 200) (hR : DrAt q S W) :
    Con w 136 [.ref q, .int 1 tk, .int size ts, th] 3 30 W (fun v post => v = .bool true ∧ DrAt q { S with i1 := S.i1 ++ [⟨0, size, th⟩] } post) := by
  revert w q S W size tk ts th hl ho hR
  intro w q S W size tk ts th hl ho hR
  obtain ⟨I, P, rfl, h⟩ := hR
  refine con_cx ?_
  k_extra "cxa"
  intro BB F0 X N TT hk hd hu hret
  obtain ⟨n1, n2, n3, n4, n5, n6, n7, n8, n9, n10, n11, n12, n13, n14, n15⟩ := nd6 h.nd
  have off := h.off
  have p1 := h.p1
  have p2 := h.p2
  have p3 := h.p3
  have p4 := h.p4
  have p5 := h.p5
  have hx0 : ([.ref I.x0.r, .ref I.x1.r] : List Value)[Int.toNat 1]? = some (.ref I.x1.r) := rfl
  have hln := h.e1.len
  obtain ⟨om, oo, oc⟩ := h.o1
  refine wpAny_call ?_
  simp only [drM, List.cons_append, List.nil_append] at N ⊢
  k_dflt (cell_ask [(Str.ofString "self", .ref q), (Str.ofString "number", .int 1 tk), (Str.ofString "size", .int size ts), (Str.ofString "thing", th)])
  k_with "con" => (refine hold ?_)
  k_steps
  unfold Hold
  refine' con_m (rowPut_con w I.x1.r I.x1.rd I.x1.t I.x1.RT I.x1.t1 I.x1.t2 I.x1.t4 I.x1.t5 I.x1.most I.x1.mo I.x1.oct I.x1.drop size I.x1.its I.x1.ep ts th (by (first | lia | omega))) ?k1 ?k2 ?k3 ?k4 ?k5 ?kK ?kp ?kr ?ko ?kd ?ku ?_
  cell_call
  (case kp => lcg_src)
  (case kr => lcg_sub)
  (case ko => ke_reads)
  intro r' W' h' tk' hP' F' N' fr'
  obtain ⟨t4', t5', hP'⟩ := hP'
  rcases hP' with ⟨_, _, x, ep', rfl, rfl⟩ | ⟨hno, _⟩
  case inr => exact absurd ⟨by (first | lia | omega), by (first | lia | omega)⟩ hno
  (try simp only [List.cons_append, List.nil_append] at N')
  clear fr'
  have y1 := led_ne N' (a := x) (b := I.qd) (by k_mem) (by k_mem)
  have y2 := led_ne N' (a := x) (b := I.la) (by k_mem) (by k_mem)
  have y3 := led_ne N' (a := x) (b := I.x0.rd) (by k_mem) (by k_mem)
  have y4 := led_ne N' (a := x) (b := I.x0.t) (by k_mem) (by k_mem)
  have y5 := led_ne N' (a := x) (b := I.x1.rd) (by k_mem) (by k_mem)
  have y6 := led_ne N' (a := x) (b := I.x1.t) (by k_mem) (by k_mem)
  have fin : DrAt q { S with i1 := S.i1 ++ [⟨0, size, th⟩] } (drM { I with x1 := { I.x1 with t4 := t4', t5 := t5', oct := I.x1.oct + size, its := I.x1.its ++ [.ref x], ep := ep' } } { S with i1 := S.i1 ++ [⟨0, size, th⟩] } ++ (x, tupOf #[.int size ts, th] 0) :: P) := by
    refine ⟨_, _, rfl, .tail _ p1, .tail _ p2, .tail _ p3, .tail _ p4, .tail _ p5, ?_, ?_, ?_, ?_, h.nd, off_cons off ?_⟩
    · exact h.e0.mono fun _ _ _ hm => .tail _ hm
    · exact ItsAre.snoc (it := ⟨0, size, th⟩) (h.e1.mono fun _ _ _ hm => .tail _ hm) (ts := ts) (.head _)
    · exact h.o0
    · exact ⟨om, oo, by show I.x1.oct + size = _; rw [oc]; simp⟩
    · intro b hb
      simp only [drA, List.mem_cons, List.not_mem_nil, or_false] at hb
      rcases hb with rfl | rfl | rfl | rfl | rfl | rfl
      · exact y1
      · exact y2
      · exact y3
      · exact y4
      · exact y5
      · exact y6
  k_steps
  exact con_end hret (by assumption) (by assumption) (by assumption) (by assumption) (by assumption) _ (by lcg_sub) ⟨rfl, fin⟩
end
end
-- DrL
example : True := by
  w_top off
  trivial
section
example : True := by
  k_with "subscriptTail Name Attribute ref int" => (k_here; (with_reducible show wpAny _ _ (subscriptTail _ _ (Value.ref _) (Value.int _ _)) _ _ _); (with_unfolding_all refine' itm_led ?z9N ?z9m ?z9a ?z9b ?z9x ?_ ?z9hs ?z9hg; (case z9N => k_asm); (case z9m => k_mem); (case z9a => first | assumption | k_dflt (first | lia | omega)); (case z9b => k_dflt (first | lia | omega)); (case z9x => first | assumption | rfl); (case z9hs => with_unfolding_all rfl); (case z9hg => intro _; with_unfolding_all rfl); k_whole))
  trivial
theorem rowHead_con (w : World) (r rd t x : Nat) (RT : RowT) (t1 t2 t4 t5 : Nat) (most mo oct drop size : Int) (its : List Value) (ep : Nat) (th : Value) (ts : VTok) :
   Con w 96 [.ref r] 1 100 [(r, instObj 106 rd), (rd, rowD RT t1 t2 t4 t5 most mo t oct drop), (t, listOf (Value.ref x :: its).toArray ep), (x, tupOf #[.int size ts, th] 0)]
     (fun v post => v = .int size ts ∧ post = [(r, instObj 106 rd), (rd, rowD RT t1 t2 t4 t5 most mo t oct drop), (t, listOf (Value.ref x :: its).toArray ep), (x, tupOf #[.int size ts, th] 0)]) := by
  refine con_cx ?_
  k_extra "cx"
  intro B F X N T hk hd hu hret
  refine wpAny_call ?_
  k_dflt (cell_ask [(Str.ofString "self", .ref r)])
  have hx : (Value.ref x :: its)[Int.toNat 0]? = some (.ref x) := rfl
  k_steps
  exact con_end hret (by assumption) (by assumption) (by assumption) (by assumption) (by assumption) _ (fun p hp => hp) ⟨rfl, rfl⟩
theorem drGo_con (w : World) (q qd qa ra la : Nat) (T : DrT) (b bg : Bool) (ta e2 : Nat) (r0 r1 : Nat) :
   Con w 143 [.ref q] 1 30 ([(qd, drD T qa ra la (bi b) ta bg)] ++ [(q, instObj 165 qd), (ra, listOf #[.ref r0, .ref r1] e2)])
     (fun v post => ∃ W', post = W' ++ [(q, instObj 165 qd), (ra, listOf #[.ref r0, .ref r1] e2)] ∧ ∃ a' ta', a' = bi (!b) ∧ v = .none ∧ W' = [(qd, drD T qa ra la a' ta' false)]) := by
  cases b
  all_goals
    dsimp only [bi, Bool.not_true, Bool.not_false]
    refine con_cx ?_
    (try simp only [List.cons_append, List.nil_append])
    k_extra "cx"
    intro B F X N T hk hd hu hret
    have n1 := led_ne N (a := q) (b := qd) (by k_mem) (by k_mem)
    have n2 := led_ne N (a := ra) (b := qd) (by k_mem) (by k_mem)
    refine wpAny_call ?_
    k_dflt (cell_ask [(Str.ofString "self", .ref q)])
    k_steps
    · rename (_ : Int) = 0 => hz
      simp at hz
    · exact con_end hret (by assumption) (by assumption) (by assumption) (by assumption) (by assumption) [_, _, _] (fun p hp => hp) ⟨[_], rfl, _, _, by rw [show (([Value.ref r0, Value.ref r1] : List Value).length : Int) = 2 from rfl]; decide, rfl, rfl⟩
set_option genInjectivity false in
structure DrB (S : DrS) : Prop where
  a0 : 1 ≤ S.q0 ∧ S.q0 ≤ 12
  a1 : 1 ≤ S.q1 ∧ S.q1 ≤ 12
  b0 : 0 ≤ S.l0 ∧ S.l0 ≤ 8 + (if S.at_ = false ∧ S.bg = true then S.q0 else 0)
  b1 : 0 ≤ S.l1 ∧ S.l1 ≤ 8 + (if S.at_ = true ∧ S.bg = true then S.q1 else 0)
  c0 : ∀ it ∈ S.i0, 1 ≤ it.size ∧ it.size ≤ 9
  c1 : ∀ it ∈ S.i1, 1 ≤ it.size ∧ it.size ≤ 9
noncomputable def DrS.V (S : DrS) : Int := S.l0 * S.q1 - S.l1 * S.q0 - (if S.at_ = S.bg then 0 else S.q0 * S.q1)
noncomputable def DrS.hd (S : DrS) : Option It := if S.at_ then S.i1.head? else S.i0.head?
noncomputable def DrS.cur (S : DrS) : Int := if S.at_ then S.l1 else S.l0
noncomputable def LookP (q : Nat) (S : DrS) (v : Value) (post : Led) : Prop := ∃ (l0 l1 : Int) (b : Bool) (y : Nat) (tk ts : Tok) (it : It) (W : Led), v = .ref y ∧ post = (y, tupOf #[.int (bi b) tk, .int it.size ts, it.th] 0) :: W ∧
  DrAt q { S with l0 := l0, l1 := l1, at_ := b, bg := true } W ∧ DrB { S with l0 := l0, l1 := l1, at_ := b, bg := true } ∧ DrS.V { S with l0 := l0, l1 := l1, at_ := b, bg := true } = S.V ∧
  DrS.hd { S with l0 := l0, l1 := l1, at_ := b, bg := true } = some it ∧ it.size ≤ DrS.cur { S with l0 := l0, l1 := l1, at_ := b, bg := true }
noncomputable def meas (l0 l1 : Int) (bg : Bool) : Nat := 2 * ((10 - l0).toNat + (10 - l1).toNat) + (if bg then 1 else 0)
theorem V0a (S : DrS) (l0 l1 : Int) : DrS.V { S with l0 := l0 + S.q0, l1 := l1, at_ := false, bg := true } = DrS.V { S with l0 := l0, l1 := l1, at_ := false, bg := false } := by
  simp [DrS.V, Int.add_mul]; (first | lia | omega)
theorem V1a (S : DrS) (l0 l1 : Int) : DrS.V { S with l0 := l0, l1 := l1 + S.q1, at_ := true, bg := true } = DrS.V { S with l0 := l0, l1 := l1, at_ := true, bg := false } := by
  simp [DrS.V, Int.add_mul, Int.mul_comm S.q1 S.q0]; (first | lia | omega)
theorem V0g (S : DrS) (l0 l1 : Int) : DrS.V { S with l0 := l0, l1 := l1, at_ := true, bg := false } = DrS.V { S with l0 := l0, l1 := l1, at_ := false, bg := true } := by
  simp [DrS.V]
theorem V1g (S : DrS) (l0 l1 : Int) : DrS.V { S with l0 := l0, l1 := l1, at_ := false, bg := false } = DrS.V { S with l0 := l0, l1 := l1, at_ := true, bg := true } := by
  simp [DrS.V]
noncomputable abbrev drLed (I : DrI) (ta u0 u1 e3 : Nat) (l0 l1 at_ : Int) (bg : Bool) (v0 v1 : List Value) (P : Led) : Led := (I.qd, drD I.T I.qa I.ra I.la at_ ta bg) :: (I.la, listOf #[.int l0 u0, .int l1 u1] e3) ::
  (I.x0.rd, rowD I.x0.RT I.x0.t1 I.x0.t2 I.x0.t4 I.x0.t5 I.x0.most I.x0.mo I.x0.t I.x0.oct I.x0.drop) :: (I.x0.t, listOf v0.toArray I.x0.ep) ::
  (I.x1.rd, rowD I.x1.RT I.x1.t1 I.x1.t2 I.x1.t4 I.x1.t5 I.x1.most I.x1.mo I.x1.t I.x1.oct I.x1.drop) :: (I.x1.t, listOf v1.toArray I.x1.ep) :: P
section
open EpsOn
theorem drLook (w : World) (q : Nat) (S : DrS) (W : Led) (a0 a1 : It) (r0 r1 : List It) (hi0 : S.i0 = a0 :: r0) (hi1 : S.i1 = a1 :: r1) (hB : DrB S) (hR : DrAt q S W) :
    Con w 149 [.ref q, .none] 4 300 W (LookP q S) := by
  revert w q S W a0 a1 r0 r1 hi0 hi1 hB hR
  intro w q S W a0 a1 r0 r1 hi0 hi1 hB hR
  obtain ⟨I, P, rfl, h⟩ := hR
  refine con_cx ?_
  k_extra "cxa"
  intro BB F0 X N TT hk hd hu hret
  obtain ⟨n1, n2, n3, n4, n5, n6, n7, n8, n9, n10, n11, n12, n13, n14, n15⟩ := nd6 h.nd
  have off := h.off
  have p1 := h.p1
  have p2 := h.p2
  have p3 := h.p3
  have p4 := h.p4
  have p5 := h.p5
  obtain ⟨x0, vs0, ts0, hv0, hm0⟩ : ∃ (x0 : Nat) (vs0 : List Value) (ts0 : Tok), I.x0.its = .ref x0 :: vs0 ∧ (x0, tupOf #[.int a0.size ts0, a0.th] 0) ∈ P := by
    have := h.e0
    rw [hi0] at this
    revert this
    generalize I.x0.its = z
    intro this
    cases this with
    | cons hm _ => exact ⟨_, _, _, rfl, hm⟩
  obtain ⟨x1, vs1, ts1, hv1, hm1⟩ : ∃ (x1 : Nat) (vs1 : List Value) (ts1 : Tok), I.x1.its = .ref x1 :: vs1 ∧ (x1, tupOf #[.int a1.size ts1, a1.th] 0) ∈ P := by
    have := h.e1
    rw [hi1] at this
    revert this
    generalize I.x1.its = z
    intro this
    cases this with
    | cons hm _ => exact ⟨_, _, _, rfl, hm⟩
  refine wpAny_call ?_
  simp only [drM, List.cons_append, List.nil_append] at N ⊢
  k_dflt (cell_ask (true, [(Str.ofString "self", .ref q), (Str.ofString "allowed", .none)]))
  rename_i g1 L1 h1 tk1 FG1 F1 B1 X1 T1 hin1 l11 c1 c2 d1 d2 N1
  replace F1 : Fr g1 L1 h1 (fun _ => none) := F1
  replace d1 : c1.data = Data.cell (some .none) := d1
  replace d2 : c2.data = Data.cell (some (.ref q)) := d2
  have hln : ([.ref I.x0.r, .ref I.x1.r] : List Value).length = 2 := rfl
  k_with "con" => (refine hold ?_)
  k_with "restT" => (refine hold ?_)
  k_with "while" => (refine hold ?_)
  k_steps
  · unfold Hold
    refine compRestT_ind (fun i ys news => news = _ ∧ ys.length = i) ?turn ?fin _ _ _ _ (Nat.zero_add _) ⟨rfl, rfl⟩
    case turn =>
      intro i ys news v I9 oI C oC D m₂ h tk E' hi hInv hP hC hx F2 N2 off1 ne1
      obtain ⟨e, hys⟩ := hInv
      rw [e] at N2 off1
      obtain ⟨t, rfl⟩ := hP
      have hi2 : i = 0 ∨ i = 1 := by rw [hln] at hi; (first | lia | omega)
      rw [Int.zero_add] at hx
      rcases hi2 with rfl | rfl
      · have hr0 : ([.ref I.x0.r, .ref I.x1.r] : List Value)[Int.toNat ((0 : Nat) : Int)]? = some (.ref I.x0.r) := rfl
        k_steps
        unfold Hold
        refine' con_ro (mayGo_con w I.ra I.x0.r I.x0.rd I.x0.t I.x0.RT I.x0.t1 I.x0.t2 I.x0.t4 I.x0.t5 I.x0.most I.x0.mo I.x0.oct I.x0.drop ((0 : Nat) : Int) I.x0.its [.ref I.x0.r, .ref I.x1.r] I.x0.ep I.e2 t (by decide) (by decide) hr0) ?k1 ?k2 ?k3 ?k4 ?k5 ?kK ?kp ?kd ?ku ?_
        cell_call
        (case kp => lcg_sub)
        intro r' h' tk' hR' F' N'
        subst hR'
        rw [hv0]
        simp only [List.isEmpty_cons, Bool.not_false]
        k_steps
        exact LCg.CompEnd.intro (by assumption) (by assumption) _ (fun p hp => hp) off1 (by trivial) ⟨rfl, by simp [hys]⟩
      · have hr1 : ([.ref I.x0.r, .ref I.x1.r] : List Value)[Int.toNat ((1 : Nat) : Int)]? = some (.ref I.x1.r) := rfl
        k_steps
        unfold Hold
        refine' con_ro (mayGo_con w I.ra I.x1.r I.x1.rd I.x1.t I.x1.RT I.x1.t1 I.x1.t2 I.x1.t4 I.x1.t5 I.x1.most I.x1.mo I.x1.oct I.x1.drop ((1 : Nat) : Int) I.x1.its [.ref I.x0.r, .ref I.x1.r] I.x1.ep I.e2 t (by decide) (by decide) hr1) ?k1 ?k2 ?k3 ?k4 ?k5 ?kK ?kp ?kd ?ku ?_
        cell_call
        (case kp => lcg_sub)
        intro r' h' tk' hR' F' N'
        subst hR'
        rw [hv1]
        simp only [List.isEmpty_cons, Bool.not_false]
        k_steps
        exact LCg.CompEnd.intro (by assumption) (by assumption) _ (fun p hp => hp) off1 (by trivial) ⟨rfl, by simp [hys]⟩
    case fin =>
      intro ys news hInv
      obtain ⟨e, hys⟩ := hInv
      subst e
      k_steps
      · exfalso
        rename List.isEmpty _ = true => hz
        rw [List.isEmpty_iff.mp hz] at hys
        cases hys
      · unfold Hold
        rename_i N9 _ _
        refine While_inv2 (fun n m nx => ∃ (ta u0 u1 e3 : Nat) (l0 l1 : Int) (b g : Bool), nx = (L1 + 1 + 1, c1) :: (L1 + 1, c2) :: drLed I ta u0 u1 e3 l0 l1 (bi b) g (.ref x0 :: vs0) (.ref x1 :: vs1) P ∧
          n = meas l0 l1 g ∧ DrB { S with l0 := l0, l1 := l1, at_ := b, bg := g } ∧ DrS.V { S with l0 := l0, l1 := l1, at_ := b, bg := g } = S.V)
          (by k_asm) (kst_newsOf (by k_asm) ?sub) ⟨I.ta, I.u0, I.u1, I.e3, S.l0, S.l1, S.at_, S.bg, rfl, rfl, hB, rfl⟩ ?_
        case sub =>
          rw [← hv0, ← hv1]
          intro p hp
          exact .tail _ (.tail _ hp)
        rintro n m₁ news₁ h₁ tk₁ F₁ N₁ ⟨ta, u0, u1, e3, l0, l1, b, g, rfl, rfl, hB', hV⟩
        simp only [drLed] at N₁
        have fin : ∀ (l0' l1' : Int) (b' : Bool) (ta' u0' u1' e3' y tk ts : Nat) (it : It), DrB { S with l0 := l0', l1 := l1', at_ := b', bg := true } → DrS.V { S with l0 := l0', l1 := l1', at_ := b', bg := true } = S.V →
            DrS.hd { S with l0 := l0', l1 := l1', at_ := b', bg := true } = some it → it.size ≤ DrS.cur { S with l0 := l0', l1 := l1', at_ := b', bg := true } →
            LookP q S (.ref y) ((y, tupOf #[.int (bi b') tk, .int it.size ts, it.th] 0) :: drLed I ta' u0' u1' e3' l0' l1' (bi b') true (.ref x0 :: vs0) (.ref x1 :: vs1) P) := by
          intro l0' l1' b' ta' u0' u1' e3' y tk ts it k1 k2 k3 k4
          exact ⟨l0', l1', b', y, tk, ts, it, _, rfl, rfl, ⟨{ I with ta := ta', u0 := u0', u1 := u1', e3 := e3', x0 := { I.x0 with its := .ref x0 :: vs0 }, x1 := { I.x1 with its := .ref x1 :: vs1 } }, P, rfl, h.p1, h.p2, h.p3, h.p4, h.p5, hv0 ▸ h.e0, hv1 ▸ h.e1, h.o0, h.o1, h.nd, h.off⟩, k1, k2, k3, k4⟩
        have ba0 := hB'.c0 a0 (by rw [hi0]; exact .head _)
        have ba1 := hB'.c1 a1 (by rw [hi1]; exact .head _)
        have bq0 := hB'.a0
        have bq1 := hB'.a1
        have bl0 : 0 ≤ l0 ∧ l0 ≤ 8 + (if b = false ∧ g = true then S.q0 else 0) := hB'.b0
        have bl1 : 0 ≤ l1 ∧ l1 ≤ 8 + (if b = true ∧ g = true then S.q1 else 0) := hB'.b1
        have bq0 : 1 ≤ S.q0 ∧ S.q0 ≤ 12 := hB.a0
        have bq1 : 1 ≤ S.q1 ∧ S.q1 ≤ 12 := hB.a1
        have hsz : ∀ (l0' l1' : Int) (b' g' : Bool), (0 ≤ l0' ∧ l0' ≤ 8 + (if b' = false ∧ g' = true then S.q0 else 0)) → (0 ≤ l1' ∧ l1' ≤ 8 + (if b' = true ∧ g' = true then S.q1 else 0)) → DrB { S with l0 := l0', l1 := l1', at_ := b', bg := g' } := fun l0' l1' b' g' k0 k1 => ⟨hB.a0, hB.a1, k0, k1, hB.c0, hB.c1⟩

        cases b
        · dsimp only [bi] at N₁
          have hr0 : ([.ref I.x0.r, .ref I.x1.r] : List Value)[Int.toNat 0]? = some (.ref I.x0.r) := rfl
          k_steps
          unfold Hold
          refine' con_ro (mayGo_con w I.ra I.x0.r I.x0.rd I.x0.t I.x0.RT I.x0.t1 I.x0.t2 I.x0.t4 I.x0.t5 I.x0.most I.x0.mo I.x0.oct I.x0.drop 0 (.ref x0 :: vs0) [.ref I.x0.r, .ref I.x1.r] I.x0.ep I.e2 ta (by decide) (by decide) hr0) ?k1 ?k2 ?k3 ?k4 ?k5 ?kK ?kp ?kd ?ku ?_
          cell_call
          (case kp => lcg_sub)
          intro r' h' tk' hR' F' N'
          subst hR'
          simp only [List.isEmpty_cons, Bool.not_false]
          cases g
          all_goals simp at bl0 bl1
          all_goals
            k_steps
            unfold Hold
            refine' con_ro (rowHead_con w I.x0.r I.x0.rd I.x0.t x0 I.x0.RT I.x0.t1 I.x0.t2 I.x0.t4 I.x0.t5 I.x0.most I.x0.mo I.x0.oct I.x0.drop a0.size vs0 I.x0.ep a0.th ts0) ?k1 ?k2 ?k3 ?k4 ?k5 ?kK ?kp ?kd ?ku ?_
            cell_call
            (case kp => lcg_sub)
            rintro r' h' tk' rfl F' N'
            k_steps
          · unfold WhileStep2
            dsimp only
            k_steps
            refine' con_end hret (by assumption) (by assumption) (by assumption) (by assumption) (by assumption) _ ?_ (fin (l0 + S.q0) l1 false _ _ _ _ _ _ _ a0 ?_ ?_ ?_ ?_)
            · lcg_sub
            · exact hsz _ _ _ _ (by simp; (first | lia | omega)) (by simp; (first | lia | omega))
            · exact (V0a S l0 l1).trans hV
            · simp [DrS.hd, hi0, hi1]
            · show a0.size ≤ l0 + S.q0
              (first | lia | omega)
          · unfold Hold
            refine' con_m (drGo_con w q I.qd I.qa I.ra I.la I.T false true _ I.e2 I.x0.r I.x1.r) ?k1 ?k2 ?k3 ?k4 ?k5 ?kK ?kp ?kr ?ko ?kd ?ku ?_
            cell_call
            (case kp => lcg_src)
            (case kr => lcg_sub)
            (case ko => ke_reads)
            rintro r' W' h' tk' ⟨a', ta', ea, rfl, rfl⟩ F' N' fr'
            subst ea
            simp only [List.cons_append, List.nil_append] at N'
            clear fr'
            k_steps
            refine wh_end (by k_asm) (by k_asm) (meas (l0 + S.q0) l1 false) ((L1 + 1 + 1, c1) :: (L1 + 1, c2) :: drLed I _ _ _ _ (l0 + S.q0) l1 (bi (!false)) false (.ref x0 :: vs0) (.ref x1 :: vs1) P) (by lcg_sub) ?_ ⟨_, _, _, _, (l0 + S.q0), l1, !false, false, rfl, rfl, hsz _ _ _ _ (by simp; (first | lia | omega)) (by simp; (first | lia | omega)), (V0g S _ _).trans ((V0a S l0 l1).trans hV)⟩
            simp only [meas]
            simp <;> (first | lia | omega)
          · unfold WhileStep2
            dsimp only
            k_steps
            refine' con_end hret (by assumption) (by assumption) (by assumption) (by assumption) (by assumption) _ ?_ (fin l0 l1 false _ _ _ _ _ _ _ a0 ?_ ?_ ?_ ?_)
            · lcg_sub
            · exact hsz _ _ _ _ (by simp; (first | lia | omega)) (by simp; (first | lia | omega))
            · exact hV
            · simp [DrS.hd, hi0, hi1]
            · show a0.size ≤ l0
              (first | lia | omega)
          · unfold Hold
            refine' con_m (drGo_con w q I.qd I.qa I.ra I.la I.T false true _ I.e2 I.x0.r I.x1.r) ?k1 ?k2 ?k3 ?k4 ?k5 ?kK ?kp ?kr ?ko ?kd ?ku ?_
            cell_call
            (case kp => lcg_src)
            (case kr => lcg_sub)
            (case ko => ke_reads)
            rintro r' W' h' tk' ⟨a', ta', ea, rfl, rfl⟩ F' N' fr'
            subst ea
            simp only [List.cons_append, List.nil_append] at N'
            clear fr'
            k_steps
            refine wh_end (by k_asm) (by k_asm) (meas l0 l1 false) ((L1 + 1 + 1, c1) :: (L1 + 1, c2) :: drLed I _ _ _ _ l0 l1 (bi (!false)) false (.ref x0 :: vs0) (.ref x1 :: vs1) P) (by lcg_sub) ?_ ⟨_, _, _, _, l0, l1, !false, false, rfl, rfl, hsz _ _ _ _ (by simp; (first | lia | omega)) (by simp; (first | lia | omega)), (V0g S _ _).trans hV⟩
            simp only [meas]
            simp <;> (first | lia | omega)
        · dsimp only [bi] at N₁
          have hr1 : ([.ref I.x0.r, .ref I.x1.r] : List Value)[Int.toNat 1]? = some (.ref I.x1.r) := rfl
          k_steps
          unfold Hold
          refine' con_ro (mayGo_con w I.ra I.x1.r I.x1.rd I.x1.t I.x1.RT I.x1.t1 I.x1.t2 I.x1.t4 I.x1.t5 I.x1.most I.x1.mo I.x1.oct I.x1.drop 1 (.ref x1 :: vs1) [.ref I.x0.r, .ref I.x1.r] I.x1.ep I.e2 ta (by decide) (by decide) hr1) ?k1 ?k2 ?k3 ?k4 ?k5 ?kK ?kp ?kd ?ku ?_
          cell_call
          (case kp => lcg_sub)
          intro r' h' tk' hR' F' N'
          subst hR'
          simp only [List.isEmpty_cons, Bool.not_false]
          cases g
          all_goals simp at bl0 bl1
          all_goals
            k_steps
            unfold Hold
            refine' con_ro (rowHead_con w I.x1.r I.x1.rd I.x1.t x1 I.x1.RT I.x1.t1 I.x1.t2 I.x1.t4 I.x1.t5 I.x1.most I.x1.mo I.x1.oct I.x1.drop a1.size vs1 I.x1.ep a1.th ts1) ?k1 ?k2 ?k3 ?k4 ?k5 ?kK ?kp ?kd ?ku ?_
            cell_call
            (case kp => lcg_sub)
            rintro r' h' tk' rfl F' N'
            k_steps
          · unfold WhileStep2
            dsimp only
            k_steps
            refine' con_end hret (by assumption) (by assumption) (by assumption) (by assumption) (by assumption) _ ?_ (fin l0 (l1 + S.q1) true _ _ _ _ _ _ _ a1 ?_ ?_ ?_ ?_)
            · lcg_sub
            · exact hsz _ _ _ _ (by simp; (first | lia | omega)) (by simp; (first | lia | omega))
            · exact (V1a S l0 l1).trans hV
            · simp [DrS.hd, hi0, hi1]
            · show a1.size ≤ l1 + S.q1
              (first | lia | omega)
          · unfold Hold
            refine' con_m (drGo_con w q I.qd I.qa I.ra I.la I.T true true _ I.e2 I.x0.r I.x1.r) ?k1 ?k2 ?k3 ?k4 ?k5 ?kK ?kp ?kr ?ko ?kd ?ku ?_
            cell_call
            (case kp => lcg_src)
            (case kr => lcg_sub)
            (case ko => ke_reads)
            rintro r' W' h' tk' ⟨a', ta', ea, rfl, rfl⟩ F' N' fr'
            subst ea
            simp only [List.cons_append, List.nil_append] at N'
            clear fr'
            k_steps
            refine wh_end (by k_asm) (by k_asm) (meas l0 (l1 + S.q1) false) ((L1 + 1 + 1, c1) :: (L1 + 1, c2) :: drLed I _ _ _ _ l0 (l1 + S.q1) (bi (!true)) false (.ref x0 :: vs0) (.ref x1 :: vs1) P) (by lcg_sub) ?_ ⟨_, _, _, _, l0, (l1 + S.q1), !true, false, rfl, rfl, hsz _ _ _ _ (by simp; (first | lia | omega)) (by simp; (first | lia | omega)), (V1g S _ _).trans ((V1a S l0 l1).trans hV)⟩
            simp only [meas]
            simp <;> (first | lia | omega)
          · unfold WhileStep2
            dsimp only
            k_steps
            refine' con_end hret (by assumption) (by assumption) (by assumption) (by assumption) (by assumption) _ ?_ (fin l0 l1 true _ _ _ _ _ _ _ a1 ?_ ?_ ?_ ?_)
            · lcg_sub
            · exact hsz _ _ _ _ (by simp; (first | lia | omega)) (by simp; (first | lia | omega))
            · exact hV
            · simp [DrS.hd, hi0, hi1]
            · show a1.size ≤ l1
              (first | lia | omega)
          · unfold Hold
            refine' con_m (drGo_con w q I.qd I.qa I.ra I.la I.T true true _ I.e2 I.x0.r I.x1.r) ?k1 ?k2 ?k3 ?k4 ?k5 ?kK ?kp ?kr ?ko ?kd ?ku ?_
            cell_call
            (case kp => lcg_src)
            (case kr => lcg_sub)
            (case ko => ke_reads)
            rintro r' W' h' tk' ⟨a', ta', ea, rfl, rfl⟩ F' N' fr'
            subst ea
            simp only [List.cons_append, List.nil_append] at N'
            clear fr'
            k_steps
            refine wh_end (by k_asm) (by k_asm) (meas l0 l1 false) ((L1 + 1 + 1, c1) :: (L1 + 1, c2) :: drLed I _ _ _ _ l0 l1 (bi (!true)) false (.ref x0 :: vs0) (.ref x1 :: vs1) P) (by lcg_sub) ?_ ⟨_, _, _, _, l0, l1, !true, false, rfl, rfl, hsz _ _ _ _ (by simp; (first | lia | omega)) (by simp; (first | lia | omega)), (V1g S _ _).trans hV⟩
            simp only [meas]
            simp <;> (first | lia | omega)
end
end
example : True := by
  k_with_none
  k_with "call ref" => (k_here; k_dflt (k_extra "con"))
  k_with "binaryOp FloorDiv int int" => (k_here; k_dflt (refine floordiv_int (by k_dflt (first | lia | omega)) ?_ (Or.inl (PyProof.noPylong_small (by k_dflt (first | lia | omega))))))
  k_with "subscriptTail Name Constant ref int" => (k_here; (with_reducible show wpAny _ _ (subscriptTail _ _ (Value.ref _) (Value.int _ _)) _ _ _); k_dflt (first | (kim_at) | (with_unfolding_all refine' itm_led ?z9N ?z9m ?z9a ?z9b ?z9x ?_ ?z9hs ?z9hg; (case z9N => k_asm); (case z9m => k_mem); (case z9a => decide); (case z9b => decide); (case z9x => first | assumption | rfl); (case z9hs => with_unfolding_all rfl); (case z9hg => intro _; with_unfolding_all rfl); k_whole) | (with_unfolding_all refine' tup_led ?z9N ?z9m ?z9a ?z9b ?z9j ?z9x ?_ ?z9hs ?z9hg; (case z9N => k_asm); (case z9m => k_mem); (case z9a => decide); (case z9b => decide); (case z9j => rfl); (case z9x => rfl); (case z9hs => with_unfolding_all rfl); (case z9hg => intro _; with_unfolding_all rfl); k_whole)))
  k_with "subscriptTail Name Name ref int" => (k_here; (with_reducible show wpAny _ _ (subscriptTail _ _ (Value.ref _) (Value.int _ _)) _ _ _); (with_unfolding_all refine' itm_led ?z9N ?z9m ?z9a ?z9b ?z9x ?_ ?z9hs ?z9hg; (case z9N => k_asm); (case z9m => k_mem); (case z9a => first | assumption | k_dflt (first | lia | omega)); (case z9b => k_dflt (first | lia | omega)); (case z9x => first | assumption | exact List.getElem?_set_self (by k_dflt (first | lia | omega))); (case z9hs => with_unfolding_all rfl); (case z9hg => intro _; with_unfolding_all rfl); k_whole))
  k_with "subscriptTail Name Subscript ref int" => (k_here; (with_reducible show wpAny _ _ (subscriptTail _ _ (Value.ref _) (Value.int _ _)) _ _ _); (with_unfolding_all refine' itm_led ?z9N ?z9m ?z9a ?z9b ?z9x ?_ ?z9hs ?z9hg; (case z9N => k_asm); (case z9m => k_mem); (case z9a => first | assumption | k_dflt (first | lia | omega)); (case z9b => k_dflt (first | lia | omega)); (case z9x => first | assumption | exact List.getElem?_set_self (by k_dflt (first | lia | omega))); (case z9hs => with_unfolding_all rfl); (case z9hg => intro _; with_unfolding_all rfl); k_whole))
  k_with "subscriptTail Attribute" => (k_here; k_dflt (refine kba_turn (value' := PySem.Expr.Name (PySem.Str.ofString "_") ⟨0, 0, 0, 0⟩) (fun _ => rfl) ?_))
  k_with "subscriptTail Subscript" => (k_here; k_dflt (refine kba_turn (value' := PySem.Expr.Name (PySem.Str.ofString "_") ⟨0, 0, 0, 0⟩) (fun _ => rfl) ?_))
  k_with "subscriptTail Call" => (k_here; k_dflt (refine kba_turn (value' := PySem.Expr.Name (PySem.Str.ofString "_") ⟨0, 0, 0, 0⟩) (fun _ => rfl) ?_))
  k_with "call builtin:len" => (k_here; (with_reducible show wpAny _ _ (call (Value.builtin "len") [Value.ref _]) _ _ _); k_dflt (refine' len_led ?z9k1 ?z9k2 ?z9k3 ?_; (case z9k1 => k_asm); (case z9k2 => k_mem); (case z9k3 => first | assumption | k_dflt (first | lia | omega) | (simp only [List.length_cons, List.length_nil]; k_dflt (first | lia | omega))); k_whole))
  k_with "compareOp Eq ref ref" => (k_here; (with_reducible show wpAny _ _ (compareOp CmpOp.Eq (Value.ref _) (Value.ref _)) _ _ _); k_dflt (refine' eq_nil_led ?z9k1 ?z9k2 ?z9k3 ?z9k4 ?_; (case z9k1 => k_asm); (case z9k2 => k_mem); (case z9k3 => k_mem); (case z9k4 => ktr_units); k_whole))
  k_with "compareOp NotEq ref ref" => (k_here; (with_reducible show wpAny _ _ (compareOp CmpOp.NotEq (Value.ref _) (Value.ref _)) _ _ _); k_dflt (refine' ne_nil_led ?z9k1 ?z9k2 ?z9k3 ?z9k4 ?_; (case z9k1 => k_asm); (case z9k2 => k_mem); (case z9k3 => k_mem); (case z9k4 => ktr_units); k_whole))
  k_with "call builtin:list.pop" => (k_here; (with_reducible show wpAny _ _ (call (Value.builtin _) [Value.ref _, Value.int _ _]) _ _ _); k_dflt (refine' pop0_led ?z9F ?z9N ?z9U ?z9z ?_; (case z9F => k_asm); (case z9N => k_asm); (case z9U => k_upd); (case z9z => first | assumption | k_dflt (first | lia | omega)); k_whole); cell_end 21 0 0; (try k_sweep))
  k_with "call builtin:sum" => (k_here; (with_reducible show wpAny _ _ (call (Value.builtin "sum") [Value.ref _]) _ _ _); k_dflt (refine' sum_led ?z9k0 ?z9k1 ?z9k2 ?z9k3 ?z9k4 ?_; (case z9k0 => with_unfolding_all rfl); (case z9k1 => k_asm); (case z9k2 => k_asm); (case z9k3 => k_mem); (case z9k4 => assumption); k_whole); cell_end 22 0 0; (try k_sweep))
  k_with "eval ListComp" => (k_here; (with_reducible show wpAny _ _ (eval (Expr.ListComp _ [Comprehension.mk _ _ [] _] _ _) _) _ _ _); k_dflt (refine LCg.ListComp_U (F₀ := by k_asm) (by with_unfolding_all rfl) (by decide) (by rfl) (by decide) (by rfl) ?_))
  k_with "eval ListComp" => (k_here; (with_reducible show wpAny _ _ (eval (Expr.ListComp _ [Comprehension.mk _ _ [_] _] _ _) _) _ _ _); k_dflt (refine LCt.ListComp_T (F₀ := by k_asm) (by with_unfolding_all rfl) (by decide) (by rfl) (by decide) (by rfl) ?_))
  k_with "CompSrc" => (k_here; k_dflt (refine' LCg.CompSrc.ledger ?z9kh ?z9kF ?z9kN ?z9km ?_ ?_; (case z9kh => rfl); (case z9kF => k_asm); (case z9kN => k_asm); (case z9km => k_mem); rotate_left; cell_end 24 0 0; (try dsimp only); k_extra "rest"))
  k_with "call builtin:max" => (k_here; (with_reducible show wpAny _ _ (call (Value.builtin "max") [Value.int _ _, Value.int _ _]) _ _ _); k_dflt (refine' max2_led ?z9k0 ?z9k1 ?z9k2 ?_; (case z9k0 => with_unfolding_all rfl); (case z9k1 => k_asm); (case z9k2 => k_asm); k_whole); cell_end 22 0 0; (try k_sweep))
  k_with "call builtin:min" => (k_here; (with_reducible show wpAny _ _ (call (Value.builtin "min") [Value.int _ _, Value.int _ _]) _ _ _); k_dflt (refine' min2_led ?z9k0 ?z9k1 ?z9k2 ?_; (case z9k0 => with_unfolding_all rfl); (case z9k1 => k_asm); (case z9k2 => k_asm); k_whole); cell_end 22 0 0; (try k_sweep))
  k_with "binaryOp Mult ref int" => (k_here; (with_reducible show wpAny _ _ (binaryOp Operator.Mult (Value.ref _) (Value.int _ _)) _ _ _); k_dflt (refine' mulrep_led ?z9k1 ?z9k2 ?z9k3 ?z9k4 ?z9k5 ?_; (case z9k1 => k_asm); (case z9k2 => k_asm); (case z9k3 => k_mem); (case z9k4 => k_dflt (first | lia | omega)); (case z9k5 => k_dflt (first | lia | omega)); k_whole); cell_end 23 0 0; (try k_sweep))
  k_with "setItem ref int" => (k_here; k_dflt (refine' set_led ?z9k1 ?z9k2 ?z9k3 ?z9k4 ?z9k5 ?z9k6 ?_; (case z9k1 => k_asm); (case z9k2 => k_asm); (case z9k3 => k_upd); (case z9k4 => first | assumption | k_dflt (first | lia | omega)); (case z9k5 => first | assumption | k_dflt (first | lia | omega)); (case z9k6 => k_dflt (first | lia | omega)); k_whole); cell_end 21 0 0; (try k_sweep))
  k_with "newList" => (k_here; k_dflt (refine' newList_K ?z9k1 ?z9k2 ?_; (case z9k1 => k_asm); (case z9k2 => k_asm); k_whole); cell_end 23 0 0; (try k_sweep))
  k_with "newTuple" => (k_here; k_dflt (refine' kup_newTuple ?z9k1 ?z9k2 ?_ ?z9kz; (case z9k1 => k_asm); (case z9k2 => k_asm); (case z9kz => exact Nat.le_of_ble_eq_true rfl); k_whole); cell_end 23 0 0; (try k_sweep))
  k_with "call builtin:list.append" => (k_here; (with_reducible show wpAny _ _ (call (Value.builtin _) [Value.ref _, _]) _ _ _); k_dflt (refine' append_led ?z9k1 ?z9k2 ?z9k3 ?z9k4 ?_; (case z9k1 => k_asm); (case z9k2 => k_asm); (case z9k3 => k_upd); (case z9k4 => first | assumption | k_dflt (first | lia | omega)); k_whole); cell_end 21 0 0; (try k_sweep))
  k_with "exec Assign cons ListComp" => (k_here; (with_reducible show wpAny _ _ (exec (Stmt.Assign [_] (Expr.ListComp _ [Comprehension.mk _ _ [_] _] _ _) _) _) _ _ _); k_dflt (refine LCt.Assign_ListComp_T (F₀ := by k_asm) (by rfl) (by with_unfolding_all rfl) (by with_unfolding_all rfl) (by decide) (by rfl) (by decide) (by rfl) (by rfl) (by rfl) ?_))
  k_with "exec Assign cons ListComp" => (k_here; (with_reducible show wpAny _ _ (exec (Stmt.Assign [_] (Expr.ListComp _ [Comprehension.mk _ _ [] _] _ _) _) _) _ _ _); k_dflt (refine LCg.Assign_ListComp_U (F₀ := by k_asm) (by rfl) (by with_unfolding_all rfl) (by with_unfolding_all rfl) (by decide) (by rfl) (by decide) (by rfl) (by rfl) (by rfl) ?_))
  k_with "CompSrcT" => (k_here; k_dflt (refine LCt.CompSrcT.range (by rfl) (by k_asm) (by k_asm) (by assumption) (small_one (by k_dflt (first | lia | omega)) (by k_dflt (first | lia | omega)) (by k_dflt (first | lia | omega)) (by k_dflt (first | lia | omega))) (rangeSize_nat _ _) ?_ ?_; rotate_left; cell_end 24 0 0; (try dsimp only); k_extra "restT"))
  k_with "binaryOp Add ref ref" => (k_here; (with_reducible show wpAny _ _ (binaryOp _ (Value.ref _) (Value.ref _)) _ _ _); k_dflt (refine' addT_led ?z9k1 ?z9k2 ?z9k3 ?z9k4 ?z9k5 ?z9k6 ?z9k7 ?z9k8 ?_; (case z9k1 => k_asm); (case z9k2 => k_asm); (case z9k3 => k_mem); (case z9k4 => k_mem); (case z9k5 => exact rfl); (case z9k6 => exact List.cons_ne_nil _ _); (case z9k7 => exact List.cons_ne_nil _ _); (case z9k8 => exact Nat.le_of_ble_eq_true rfl); k_whole); cell_end 23 0 0; (try k_sweep))
  k_with "call builtin:min" => (k_here; (with_reducible show wpAny _ _ (call (Value.builtin "min") [Value.ref _]) _ _ _); k_dflt (k_extra "min"))
  k_with "CompSrcT" => (k_here; k_dflt (refine' LCt.CompSrcT.ledger ?z9kh ?z9kF ?z9kN ?z9km ?_ ?_; (case z9kh => rfl); (case z9kF => k_asm); (case z9kN => k_asm); (case z9km => k_mem); rotate_left; cell_end 24 0 0; (try dsimp only); k_extra "restT"))
  k_with "subscriptTail Name Constant ref str" => (k_here; (with_reducible show wpAny _ _ (subscriptTail _ _ (Value.ref _) (Value.str _ _)) _ _ _); k_dflt (refine' kda_item (knd := PySem.strKind _ _) ?z9N ?z9hp ?z9hd (strKind_is _ _ _ _) ?z9hl ?_ ?z9hs ?z9hg; (case z9N => k_asm); (case z9hp => k_mem); (case z9hd => assumption); (case z9hl => rfl); (case z9hs => with_unfolding_all rfl); (case z9hg => intro _; with_unfolding_all rfl)); k_whole)
  k_with "setItem ref str" => (k_here; k_dflt (refine' kda_set (knd := PySem.strKind _ _) ?z9F ?z9N ?z9U ?z9d (strKind_is _ _ _ _) ?z9z ?_; (case z9F => k_asm); (case z9N => k_asm); (case z9U => k_updF); (case z9d => assumption); (case z9z => rw [sizeLine_eq]; exact Nat.le_of_ble_eq_true (by with_unfolding_all rfl))); cell_end 25 0 0)
  k_with "exec For Tuple Call" => (k_here; k_dflt (refine' For_turns ?z9lF ?_; (case z9lF => k_asm); k_whole))
  k_with "call type:enumerate" => (k_here; k_dflt (refine' ktu_enum ?z9hh ?z9F ?z9N ?z9hm ?z9hc ?z9hd ?z9hx ?_; (case z9hh => rfl); (case z9F => k_asm); (case z9N => k_asm); (case z9hm => k_mem); (case z9hc => rfl); (case z9hd => rfl); (case z9hx => rfl); k_extra "items"))
  k_with "compareOp NotEq ref ref" => (k_here; (with_reducible show wpAny _ _ (compareOp CmpOp.NotEq (Value.ref _) (Value.ref _)) _ _ _); k_dflt (first | (refine' ne_nil_led ?z9k1 ?z9k2 ?z9k3 ?z9k4 ?_; (case z9k1 => k_asm); (case z9k2 => k_mem); (case z9k3 => k_mem); (case z9k4 => ktr_units)) | (refine' ne_tup2 ?z9k1 ?z9k2 ?z9k3 ?z9k4 ?_; (case z9k1 => k_asm); (case z9k2 => k_mem); (case z9k3 => k_mem); (case z9k4 => ktr_units)) | (refine' ne_tup3 ?z9k1 ?z9k2 ?z9k3 ?z9k4 ?_; (case z9k1 => k_asm); (case z9k2 => k_mem); (case z9k3 => k_mem); (case z9k4 => ktr_units))); k_whole)
  k_with "exec For Name Name cons nil" => (k_here; k_dflt (refine' For_turns ?z9lF ?_; (case z9lF => k_asm); k_whole))
  k_with "exec For Name Call cons nil" => (k_here; k_dflt (refine' For_turns ?z9lF ?_; (case z9lF => k_asm); k_whole))
  k_with "pyIter ref" => (k_here; (with_reducible show wpAny _ _ (pyIter (Value.ref _)) (fun it s₂ => TurnsAt _ _ _ _ _ _ _ _ _ it s₂) _ _); k_dflt (first | (refine' iter_rangeTurns ?z9hh ?z9hr ?z9hs ?z9hn ?z9F ?z9N ?_; (case z9hh => rfl); (case z9hr => assumption); (case z9hs => first | decide | exact small_one (by k_dflt (first | lia | omega)) (by k_dflt (first | lia | omega)) (by k_dflt (first | lia | omega)) (by k_dflt (first | lia | omega))); (case z9hn => exact rangeSize_nat _ _); (case z9F => k_asm); (case z9N => k_asm); k_extra "items") | (refine' iter_listTurns ?z9hh ?z9F ?z9N ?z9hm ?z9hc ?z9hd ?_; (case z9hh => rfl); (case z9F => k_asm); (case z9N => k_asm); (case z9hm => k_mem); (case z9hc => rfl); (case z9hd => rfl); k_extra "items")))
  k_with "exec While Compare cons nil" => (k_here; k_dflt (k_extra "while"))
  k_with "exec While Constant cons nil" => (k_here; k_dflt (k_extra "while"))
  k_with "UnrEndW" => refine hold ?_
  k_with "eval ListComp" => (k_here; (with_reducible show wpAny _ _ (eval (Expr.ListComp _ [Comprehension.mk (Expr.Tuple _ _ _) _ [] _] _ _) _) _ _ _); k_dflt (refine LCp.ListComp_P (F₀ := by k_asm) (by with_unfolding_all rfl) (by decide) (by rfl) (by decide) (by rfl) (by rfl) (by decide) ?_))
  k_with "SrcLP" => (k_here; k_dflt (refine' LCp.SrcLP.ledger ?z9kh ?z9kF ?z9kN ?z9km ?_ ?_; (case z9kh => rfl); (case z9kF => k_asm); (case z9kN => k_asm); (case z9km => k_mem); rotate_left; cell_end 24 0 0; (try dsimp only); k_extra "restP"))
  k_with "exec Raise some none" => (k_here; k_dflt (k_extra "raise"))
  k_with "CompSrc" => (k_here; k_dflt (refine LCg.CompSrc.range (by rfl) (by k_asm) (by k_asm) (by assumption) (small_one (by k_dflt (first | lia | omega)) (by k_dflt (first | lia | omega)) (by k_dflt (first | lia | omega)) (by k_dflt (first | lia | omega))) (rangeSize_nat _ _) ?_ ?_; rotate_left; cell_end 24 0 0; (try dsimp only); k_extra "rest"))
  k_with "subscriptTail List Call ref int" => (k_here; k_dflt (k_extra "menu"))
  k_with "exec For Tuple Subscript cons nil" => (k_here; k_dflt (refine' For_turns ?z9lF ?_; (case z9lF => k_asm); k_whole))
  k_with "subscriptTail Name Slice ref ref" => (k_here; (with_reducible show wpAny _ _ (subscriptTail _ (PySem.Expr.Slice (some _) none none _) (Value.ref _) (Value.ref _)) _ _ _); k_dflt (refine' slice_led ?z9F ?z9N ?z9l ?z9x ?z9z ?_ ?z9s ?z9t; (case z9F => k_asm); (case z9N => k_asm); (case z9l => k_mem); (case z9x => k_dflt (first | lia | omega)); (case z9z => first | assumption | k_dflt (first | lia | omega)); (case z9s => with_unfolding_all rfl); (case z9t => kmk_pure)); cell_end 23 0 0; (try k_sweep))
  k_with "k_mem" => (first | exact List.Mem.head _ | (refine' List.Mem.tail _ ?_; k_mem) | assumption)
  k_with "ask2" => ((case kA => exact rfl); (case kF => exact rfl); (case kK => assumption); (case k1 => k_asm); (case k2 => k_asm); (case k3 => k_asm); (case k4 => k_asm); (case k5 => k_asm); (case k6 => k_is); (case k7 => k_is); (case k8 => ktr_room); (case k9 => first | exact BindsTo.of_eq rfl | exact binds_K (by k_in) rfl (by k_is) rfl rfl rfl); (case c5 => decide); (case kB => exact locs rfl); (case c2 => exact rfl); (case c3 => exact rfl); (case c4 => exact rfl); k_whole)
  k_with "askC2" => ((case kA => exact rfl); (case kF => exact rfl); (case kK => assumption); (case k1 => k_asm); (case k2 => k_asm); (case k3 => k_asm); (case k4 => k_asm); (case k5 => k_asm); (case k6 => k_is); (case k7 => k_is); (case k8 => ktr_room); (case k9 => first | exact BindsTo.of_eq rfl | exact binds_K (by k_in) rfl (by k_is) rfl rfl rfl); (case kB => exact rfl); (case kD => decide +kernel); (case c2 => exact rfl); (case c3 => exact rfl); (case c4 => exact rfl); k_whole)
  k_with "cell_call" => ((case k1 => k_asm); (case k2 => k_asm); (case k3 => k_asm); (case k4 => k_asm); (case k5 => k_asm); (case kK => first | exact rfl | assumption); (case kd => ktr_room); (case ku => ktr_units))
  k_with "k_all" => (first | exact List.forall_mem_nil _ | (refine List.forall_mem_cons.mpr ⟨?_, ?_⟩; (focus k_ne); k_all) | exact OwnOff.ne (by with_reducible assumption) (by k_memK) | exact fresh_ne (by with_reducible assumption) (by intro p hp; k_mem))
  k_with "k_ne" => (first | ((try dsimp only); first | (refine' NeA.ne ?z5h; (case z5h => with_reducible assumption)) | (refine' NeA.en ?z5h; (case z5h => with_reducible assumption)) | (refine' fresh1 ?z5h ?z5m; (case z5h => with_reducible assumption); (case z5m => k_mem)) | (refine' fresh2 ?z5h ?z5m; (case z5h => with_reducible assumption); (case z5m => k_mem))) | (refine neN ?_; (try dsimp only); k_dflt (first | lia | omega)))
  k_with "lcg_sub" => (first | exact List.forall_mem_nil _ | (refine List.forall_mem_cons.mpr ⟨?_, ?_⟩; (focus k_mem); lcg_sub) | (intro p hp; k_mem))
  k_with "ke_reads" => (first | exact List.forall_mem_nil _ | (refine List.forall_mem_cons.mpr ⟨?_, ?_⟩; (focus k_all); ke_reads))
  k_with "cell_step" => (cell_call; (case kp => lcg_src); (case ko => ke_reads))
  k_with "k_in" => (first | k_in_fast | with_reducible assumption | (with_reducible (refine' in_fr ?z4F ?z4X; (case z4F => assumption); (case z4X => assumption))))
  k_with "ends" => ((case F1 => k_asm); (case N1 => k_asm); (case s1 => first | exact fun _ hp => hp | exact fun _ hp => List.Mem.tail _ hp | exact fun _ hp => List.Mem.tail _ (List.Mem.tail _ hp) | lcg_sub))
  k_with "ne" => (first | infer_instance | exact neWorld | exact neShared | exact neAround | exact neParams | exact neItm | exact ⟨default⟩)
  k_with "ep" => (refine @all_epA _ (by k_extra "ne") _ ?_)
  k_with "epq" => (clear zq)
  k_with "epx" => (have zk := @epE_spec _ (by k_extra "ne") _ zh; clear zh)
  k_with "epe" => (replace zk := exE zk)
  k_with "epa" => (have zj := And.left zh; have zk := And.right zh; clear zh)
  k_with "epj" => (clear zj)
  k_with "epk" => (clear zk)
  k_with "cx" => (refine @all_epA _ neCx _ ?_; generalize epA _ _ = zc; refine exI ?_; generalize Cx.p zc = p, Cx.loose zc = loose, Cx.mean zc = mean, Cx.mg zc = mg, Cx.mb zc = mb, Cx.dp zc = dp, Cx.un zc = un, Cx.gd zc = gd, Cx.cn zc = cn, Cx.cs zc = cs, Cx.a zc = a, Cx.ccd zc = ccd, Cx.cl zc = cl, Cx.outer zc = outer, Cx.A₀ zc = A₀, Cx.base zc = base, Cx.h₀ zc = h₀, Cx.L zc = L, Cx.m zc = m, Cx.s zc = s, Cx.Q zc = Q, Cx.E zc = E; clear zc)
  k_with "cxa" => (refine @all_epA _ neCx _ ?_; generalize epA _ _ = zc; refine exI ?_; generalize Cx.p zc = p, Cx.loose zc = loose, Cx.mean zc = mean, Cx.mg zc = mg, Cx.mb zc = mb, Cx.dp zc = dp, Cx.un zc = un, Cx.gd zc = gd, Cx.cn zc = cn, Cx.cs zc = cs, Cx.a zc = ac, Cx.ccd zc = ccd, Cx.cl zc = cl, Cx.outer zc = outer, Cx.A₀ zc = A₀, Cx.base zc = base, Cx.h₀ zc = h₀, Cx.L zc = L, Cx.m zc = m, Cx.s zc = s, Cx.Q zc = Q, Cx.E zc = E; clear zc)
  k_with "i2" => (refine all_2 ?_ ?_; (focus (repeat' (first | exact neWorld | exact neShared | exact neAround | exact neParams | exact neItm | refine nePr ?_ ?_ | infer_instance | exact ⟨default⟩))); generalize ep2 _ _ = zq; refine ex2 ?_)
  k_with "i3" => (refine all_3 ?_ ?_; (focus (repeat' (first | exact neWorld | exact neShared | exact neAround | exact neParams | exact neItm | refine nePr ?_ ?_ | infer_instance | exact ⟨default⟩))); generalize ep3 _ _ = zq; refine ex3 ?_)
  k_with "i4" => (refine all_4 ?_ ?_; (focus (repeat' (first | exact neWorld | exact neShared | exact neAround | exact neParams | exact neItm | refine nePr ?_ ?_ | infer_instance | exact ⟨default⟩))); generalize ep4 _ _ = zq; refine ex4 ?_)
  k_with "i5" => (refine all_5 ?_ ?_; (focus (repeat' (first | exact neWorld | exact neShared | exact neAround | exact neParams | exact neItm | refine nePr ?_ ?_ | infer_instance | exact ⟨default⟩))); generalize ep5 _ _ = zq; refine ex5 ?_)
  k_with "i6" => (refine all_6 ?_ ?_; (focus (repeat' (first | exact neWorld | exact neShared | exact neAround | exact neParams | exact neItm | refine nePr ?_ ?_ | infer_instance | exact ⟨default⟩))); generalize ep6 _ _ = zq; refine ex6 ?_)
  k_with "i7" => (refine all_7 ?_ ?_; (focus (repeat' (first | exact neWorld | exact neShared | exact neAround | exact neParams | exact neItm | refine nePr ?_ ?_ | infer_instance | exact ⟨default⟩))); generalize ep7 _ _ = zq; refine ex7 ?_)
  k_with "i8" => (refine all_8 ?_ ?_; (focus (repeat' (first | exact neWorld | exact neShared | exact neAround | exact neParams | exact neItm | refine nePr ?_ ?_ | infer_instance | exact ⟨default⟩))); generalize ep8 _ _ = zq; refine ex8 ?_)
  k_with "eph" => (clear zh)
  k_with "sub" => (first | exact sub_nil | (refine sub_cons ?_ ?_; (focus (k_extra "mem")); k_extra "sub") | (refine sub_app ?_ ?_; (focus (k_extra "sub")); k_extra "sub") | k_extra "incl")
  k_with "mem" => (with_reducible (first | exact List.mem_cons_self .. | (refine List.mem_cons_of_mem _ ?_; k_extra "mem") | (refine List.mem_append_left _ ?_; k_extra "mem") | (refine List.mem_append_right _ ?_; k_extra "mem") | assumption))
  k_with "incl" => (with_reducible (first | exact fun _ h => h | (refine sub_tail ?_; k_extra "incl") | (refine sub_left ?_; k_extra "incl") | (refine sub_right ?_; k_extra "incl")))
  k_with "room" => ((try dsimp only [depth_under_make, depth_under_kw, depth_in1, depth_deeper, depth_caller, ktrTop]); first | exact room_lt0 (by assumption) | exact room_lt (by assumption) (by decide) | exact room_lt2 (by assumption) (by decide) | exact room_lt3 (by assumption) (by decide))
  k_with "units" => ((try dsimp only [units_in1, units_deeper, Around.mark_units, units_caller, ktrTop]); first | exact room_lt0 (by assumption) | exact room_lt (by assumption) (by decide) | exact room_lt2 (by assumption) (by decide) | exact room_lt3 (by assumption) (by decide))
  trivial
-- DrT
example : True := by
  w_top off
  trivial
section
example : True := by
  k_with "subscriptTail Name Subscript ref int" => (k_here; (with_reducible show wpAny _ _ (subscriptTail _ _ (Value.ref _) (Value.int _ _)) _ _ _); (with_unfolding_all refine' itm_led ?z9N ?z9m ?z9a ?z9b ?z9x ?_ ?z9hs ?z9hg; (case z9N => k_asm); (case z9m => k_mem); (case z9a => k_dflt (first | lia | omega)); (case z9b => k_dflt (first | lia | omega)); (case z9x => rfl); (case z9hs => with_unfolding_all rfl); (case z9hg => intro _; with_unfolding_all rfl); k_whole))
  trivial
noncomputable def DrS.take (S : DrS) : DrS := { S with i0 := (if S.at_ then S.i0 else S.i0.tail), i1 := (if S.at_ then S.i1.tail else S.i1) }
noncomputable def TakeQ (q : Nat) (S : DrS) (v : Value) (post : Led) : Prop := ∃ (l0 l1 : Int) (b : Bool) (y : Nat) (tk ts : Tok) (it : It) (W : Led), v = .ref y ∧ post = (y, tupOf #[.int (bi b) tk, .int it.size ts, it.th] 0) :: W ∧
  1 ≤ it.size ∧ it.size ≤ 9 ∧
  ((b = false ∧ ∃ a r, S.i0 = a :: r ∧ it = a ∧ DrAt q { S with i0 := r, l0 := l0, l1 := l1, at_ := false, bg := true } W ∧ DrB { S with i0 := r, l0 := l0, l1 := l1, at_ := false, bg := true } ∧ DrS.V { S with i0 := r, l0 := l0, l1 := l1, at_ := false, bg := true } = S.V - it.size * S.q1) ∨
   (b = true ∧ ∃ a r, S.i1 = a :: r ∧ it = a ∧ DrAt q { S with i1 := r, l0 := l0, l1 := l1, at_ := true, bg := true } W ∧ DrB { S with i1 := r, l0 := l0, l1 := l1, at_ := true, bg := true } ∧ DrS.V { S with i1 := r, l0 := l0, l1 := l1, at_ := true, bg := true } = S.V + it.size * S.q0))
section
open EpsOn EpsNf
theorem drTake (w : World) (q : Nat) (S : DrS) (W : Led) (a0 a1 b0 b1 : It) (r0 r1 : List It) (hi0 : S.i0 = a0 :: b0 :: r0) (hi1 : S.i1 = a1 :: b1 :: r1) (hz0 : S.i0.length ≤ 100) (hz1 : S.i1.length ≤ 100) (hB : DrB S) (hR : DrAt q S W) :
    Con w 157 [.ref q] 6 400 W (TakeQ q S) := by
  revert w q S W a0 a1 b0 b1 r0 r1 hi0 hi1 hz0 hz1 hB hR
  intro w q S W a0 a1 b0 b1 r0 r1 hi0 hi1 hz0 hz1 hB hR
  have hR0 := hR
  obtain ⟨I0, P0, hW, h0⟩ := hR
  have p1 : (q, instObj 165 I0.qd) ∈ W := by rw [hW]; exact List.mem_append_right _ h0.p1
  have p2 : (I0.qd, drD I0.T I0.qa I0.ra I0.la (bi S.at_) I0.ta S.bg) ∈ W := by rw [hW]; exact .head _
  refine con_cx ?_
  k_extra "cxa"
  intro BB F0 X N TT hk hd hu hret
  refine wpAny_call ?_
  k_dflt (cell_ask [(Str.ofString "self", .ref q), (Str.ofString "allowed", .none)])
  rename_i g1 L1 h1 FG1 F1 N1 B1 X1 T1 hin1 l11
  k_with "con" => (refine hold ?_)
  k_steps
  unfold Hold
  refine' con_use (drLook w q S W a0 a1 (b0 :: r0) (b1 :: r1) hi0 hi1 hB hR0) ?k1 ?k2 ?k3 ?k4 ?k5 ?kK ?kd ?ku (fun _ h => h) ?_
  cell_call
  rintro r' post h2 tk2 ⟨l0, l1, b, y, tk, ts, it, W2, rfl, rfl, hR2, hB2, hV2, hd2, hc2⟩ F2 N2 _ _
  clear hR0 h0 p1 p2 hW
  obtain ⟨I, P, rfl, h⟩ := hR2
  have p1 := h.p1
  have p2 := h.p2
  have p3 := h.p3
  have p4 := h.p4
  have p5 := h.p5
  have off := h.off
  obtain ⟨n1, n2, n3, n4, n5, n6, n7, n8, n9, n10, n11, n12, n13, n14, n15⟩ := nd6 h.nd
  have bb1 := hB2.b0
  have bb2 := hB2.b1
  simp only [drM, List.cons_append, List.nil_append] at N2
  have y1 := led_ne N2 (a := y) (b := I.qd) (by k_mem) (by k_mem)
  have y2 := led_ne N2 (a := y) (b := I.la) (by k_mem) (by k_mem)
  have y3 := led_ne N2 (a := y) (b := I.x0.rd) (by k_mem) (by k_mem)
  have y4 := led_ne N2 (a := y) (b := I.x0.t) (by k_mem) (by k_mem)
  have y5 := led_ne N2 (a := y) (b := I.x1.rd) (by k_mem) (by k_mem)
  have y6 := led_ne N2 (a := y) (b := I.x1.t) (by k_mem) (by k_mem)
  clear N1 F1
  cases b
  · obtain rfl : a0 = it := by simpa [DrS.hd, hi0, hi1] using hd2
    have hc : a0.size ≤ l0 := hc2
    obtain ⟨x, vs, tx, hv, hm, he⟩ : ∃ (x : Nat) (vs : List Value) (tx : Tok), I.x0.its = .ref x :: vs ∧ (x, tupOf #[.int a0.size tx, a0.th] 0) ∈ P ∧ ItsAre P vs (b0 :: r0) := by
      have := h.e0
      rw [show ({ S with l0 := l0, l1 := l1, at_ := false, bg := true } : DrS).i0 = a0 :: b0 :: r0 from hi0] at this
      revert this
      generalize I.x0.its = z
      intro this
      cases this with
      | cons hm he => exact ⟨_, _, _, rfl, hm, he⟩
    have hvl := he.len
    rw [hi0] at hz0
    simp only [List.length_cons] at hvl hz0
    have hve : vs.isEmpty = false := by cases vs with
      | nil => simp at hvl
      | cons => rfl
    dsimp only [bi] at N2 ⊢
    rw [hv] at N2
    have hr0 : ([.ref I.x0.r, .ref I.x1.r] : List Value)[Int.toNat 0]? = some (.ref I.x0.r) := rfl
    k_steps
    unfold Hold
    refine' con_m (rowTake_con w I.x0.r I.x0.rd I.x0.t x I.x0.RT I.x0.t1 I.x0.t2 I.x0.t4 I.x0.t5 I.x0.most I.x0.mo I.x0.oct I.x0.drop a0.size vs I.x0.ep a0.th tx (by (first | lia | omega))) ?k1 ?k2 ?k3 ?k4 ?k5 ?kK ?kp ?kr ?ko ?kd ?ku ?_
    cell_call
    (case kp => lcg_src)
    (case kr => lcg_sub)
    (case ko => ke_reads)
    intro r' W' h' tk' hP' F' N' fr'
    obtain ⟨t4', ep', rfl, rfl⟩ := hP'
    (try simp only [List.cons_append, List.nil_append] at N')
    clear fr'
    k_steps
    unfold Hold
    refine' con_ro (rowEmpty_con w I.x0.r I.x0.rd I.x0.t I.x0.RT I.x0.t1 I.x0.t2 t4' I.x0.t5 I.x0.most I.x0.mo (I.x0.oct - a0.size) I.x0.drop vs ep') ?k1 ?k2 ?k3 ?k4 ?k5 ?kK ?kp ?kd ?ku ?_
    cell_call
    (case kp => lcg_sub)
    rintro r' h' tk' rfl F' N'
    rw [hve]
    k_steps
    have hs : 1 ≤ a0.size ∧ a0.size ≤ 9 := hB.c0 a0 (by rw [hi0]; exact .head _)
    obtain ⟨om, oo, oc⟩ := h.o0
    have fin : ∀ (tk0 u e3' : Nat), TakeQ q S (.ref y) ((y, tupOf #[.int (bi false) tk0, .int a0.size ts, a0.th] 0) :: (I.qd, drD I.T I.qa I.ra I.la (bi false) I.ta true) :: (I.la, listOf #[.int (l0 - a0.size) u, .int l1 I.u1] e3') ::
        (I.x0.rd, rowD I.x0.RT I.x0.t1 I.x0.t2 t4' I.x0.t5 I.x0.most I.x0.mo I.x0.t (I.x0.oct - a0.size) I.x0.drop) :: (I.x0.t, listOf vs.toArray ep') :: (I.x1.rd, rowD I.x1.RT I.x1.t1 I.x1.t2 I.x1.t4 I.x1.t5 I.x1.most I.x1.mo I.x1.t I.x1.oct I.x1.drop) :: (I.x1.t, listOf I.x1.its.toArray I.x1.ep) :: P) := by
      intro tk0 u e3'
      refine ⟨l0 - a0.size, l1, false, y, tk0, ts, a0, _, rfl, rfl, hs.1, hs.2, .inl ⟨rfl, a0, b0 :: r0, hi0, rfl, ⟨{ I with u0 := u, e3 := e3', x0 := { I.x0 with t4 := t4', oct := I.x0.oct - a0.size, its := vs, ep := ep' } }, P, rfl, p1, p2, p3, p4, p5, he, h.e1, ⟨om, oo, by show I.x0.oct - a0.size = _; rw [oc]; simp [hi0]; (first | lia | omega)⟩, h.o1, h.nd, off⟩, ⟨hB.a0, hB.a1, ?_, ?_, fun it hit => hB.c0 it (by rw [hi0]; exact .tail _ hit), hB.c1⟩, ?_⟩⟩
      · simp at bb1 ⊢; (first | lia | omega)
      · simp at bb2 ⊢; (first | lia | omega)
      · rw [← hV2]
        simp [DrS.V, Int.sub_mul]
        (first | lia | omega)
    refine' con_end hret (by assumption) (by assumption) (by assumption) (by assumption) (by assumption) _ ?_ (fin _ _ _)
    lcg_sub
  · obtain rfl : a1 = it := by simpa [DrS.hd, hi0, hi1] using hd2
    have hc : a1.size ≤ l1 := hc2
    obtain ⟨x, vs, tx, hv, hm, he⟩ : ∃ (x : Nat) (vs : List Value) (tx : Tok), I.x1.its = .ref x :: vs ∧ (x, tupOf #[.int a1.size tx, a1.th] 0) ∈ P ∧ ItsAre P vs (b1 :: r1) := by
      have := h.e1
      rw [show ({ S with l0 := l0, l1 := l1, at_ := true, bg := true } : DrS).i1 = a1 :: b1 :: r1 from hi1] at this
      revert this
      generalize I.x1.its = z
      intro this
      cases this with
      | cons hm he => exact ⟨_, _, _, rfl, hm, he⟩
    have hvl := he.len
    rw [hi1] at hz1
    simp only [List.length_cons] at hvl hz1
    have hve : vs.isEmpty = false := by cases vs with
      | nil => simp at hvl
      | cons => rfl
    dsimp only [bi] at N2 ⊢
    rw [hv] at N2
    have hr1 : ([.ref I.x0.r, .ref I.x1.r] : List Value)[Int.toNat 1]? = some (.ref I.x1.r) := rfl
    k_steps
    unfold Hold
    refine' con_m (rowTake_con w I.x1.r I.x1.rd I.x1.t x I.x1.RT I.x1.t1 I.x1.t2 I.x1.t4 I.x1.t5 I.x1.most I.x1.mo I.x1.oct I.x1.drop a1.size vs I.x1.ep a1.th tx (by (first | lia | omega))) ?k1 ?k2 ?k3 ?k4 ?k5 ?kK ?kp ?kr ?ko ?kd ?ku ?_
    cell_call
    (case kp => lcg_src)
    (case kr => lcg_sub)
    (case ko => ke_reads)
    intro r' W' h' tk' hP' F' N' fr'
    obtain ⟨t4', ep', rfl, rfl⟩ := hP'
    (try simp only [List.cons_append, List.nil_append] at N')
    clear fr'
    k_steps
    unfold Hold
    refine' con_ro (rowEmpty_con w I.x1.r I.x1.rd I.x1.t I.x1.RT I.x1.t1 I.x1.t2 t4' I.x1.t5 I.x1.most I.x1.mo (I.x1.oct - a1.size) I.x1.drop vs ep') ?k1 ?k2 ?k3 ?k4 ?k5 ?kK ?kp ?kd ?ku ?_
    cell_call
    (case kp => lcg_sub)
    rintro r' h' tk' rfl F' N'
    rw [hve]
    k_steps
    have hs : 1 ≤ a1.size ∧ a1.size ≤ 9 := hB.c1 a1 (by rw [hi1]; exact .head _)
    obtain ⟨om, oo, oc⟩ := h.o1
    have fin : ∀ (tk0 u e3' : Nat), TakeQ q S (.ref y) ((y, tupOf #[.int (bi true) tk0, .int a1.size ts, a1.th] 0) :: (I.qd, drD I.T I.qa I.ra I.la (bi true) I.ta true) :: (I.la, listOf #[.int l0 I.u0, .int (l1 - a1.size) u] e3') ::
        (I.x0.rd, rowD I.x0.RT I.x0.t1 I.x0.t2 I.x0.t4 I.x0.t5 I.x0.most I.x0.mo I.x0.t I.x0.oct I.x0.drop) :: (I.x0.t, listOf I.x0.its.toArray I.x0.ep) :: (I.x1.rd, rowD I.x1.RT I.x1.t1 I.x1.t2 t4' I.x1.t5 I.x1.most I.x1.mo I.x1.t (I.x1.oct - a1.size) I.x1.drop) :: (I.x1.t, listOf vs.toArray ep') :: P) := by
      intro tk0 u e3'
      refine ⟨l0, l1 - a1.size, true, y, tk0, ts, a1, _, rfl, rfl, hs.1, hs.2, .inr ⟨rfl, a1, b1 :: r1, hi1, rfl, ⟨{ I with u1 := u, e3 := e3', x1 := { I.x1 with t4 := t4', oct := I.x1.oct - a1.size, its := vs, ep := ep' } }, P, rfl, p1, p2, p3, p4, p5, h.e0, he, h.o0, ⟨om, oo, by show I.x1.oct - a1.size = _; rw [oc]; simp [hi1]; (first | lia | omega)⟩, h.nd, off⟩, ⟨hB.a0, hB.a1, ?_, ?_, hB.c0, fun it hit => hB.c1 it (by rw [hi1]; exact .tail _ hit)⟩, ?_⟩⟩
      · simp at bb1 ⊢; (first | lia | omega)
      · simp at bb2 ⊢; (first | lia | omega)
      · rw [← hV2]
        simp [DrS.V, Int.sub_mul]
        (first | lia | omega)
    refine' con_end hret (by assumption) (by assumption) (by assumption) (by assumption) (by assumption) _ ?_ (fin _ _ _)
    lcg_sub
end
end
example : True := by
  k_with_none
  k_with "call ref" => (k_here; k_dflt (k_extra "con"))
  k_with "binaryOp FloorDiv int int" => (k_here; k_dflt (refine floordiv_int (by k_dflt (first | lia | omega)) ?_ (Or.inl (PyProof.noPylong_small (by k_dflt (first | lia | omega))))))
  k_with "subscriptTail Name Constant ref int" => (k_here; (with_reducible show wpAny _ _ (subscriptTail _ _ (Value.ref _) (Value.int _ _)) _ _ _); k_dflt (first | (kim_at) | (with_unfolding_all refine' itm_led ?z9N ?z9m ?z9a ?z9b ?z9x ?_ ?z9hs ?z9hg; (case z9N => k_asm); (case z9m => k_mem); (case z9a => decide); (case z9b => decide); (case z9x => first | assumption | rfl); (case z9hs => with_unfolding_all rfl); (case z9hg => intro _; with_unfolding_all rfl); k_whole) | (with_unfolding_all refine' tup_led ?z9N ?z9m ?z9a ?z9b ?z9j ?z9x ?_ ?z9hs ?z9hg; (case z9N => k_asm); (case z9m => k_mem); (case z9a => decide); (case z9b => decide); (case z9j => rfl); (case z9x => rfl); (case z9hs => with_unfolding_all rfl); (case z9hg => intro _; with_unfolding_all rfl); k_whole)))
  k_with "subscriptTail Name Name ref int" => (k_here; (with_reducible show wpAny _ _ (subscriptTail _ _ (Value.ref _) (Value.int _ _)) _ _ _); (with_unfolding_all refine' itm_led ?z9N ?z9m ?z9a ?z9b ?z9x ?_ ?z9hs ?z9hg; (case z9N => k_asm); (case z9m => k_mem); (case z9a => first | assumption | k_dflt (first | lia | omega)); (case z9b => k_dflt (first | lia | omega)); (case z9x => first | assumption | exact List.getElem?_set_self (by k_dflt (first | lia | omega))); (case z9hs => with_unfolding_all rfl); (case z9hg => intro _; with_unfolding_all rfl); k_whole))
  k_with "subscriptTail Name Subscript ref int" => (k_here; (with_reducible show wpAny _ _ (subscriptTail _ _ (Value.ref _) (Value.int _ _)) _ _ _); (with_unfolding_all refine' itm_led ?z9N ?z9m ?z9a ?z9b ?z9x ?_ ?z9hs ?z9hg; (case z9N => k_asm); (case z9m => k_mem); (case z9a => first | assumption | k_dflt (first | lia | omega)); (case z9b => k_dflt (first | lia | omega)); (case z9x => first | assumption | exact List.getElem?_set_self (by k_dflt (first | lia | omega))); (case z9hs => with_unfolding_all rfl); (case z9hg => intro _; with_unfolding_all rfl); k_whole))
  k_with "subscriptTail Attribute" => (k_here; k_dflt (refine kba_turn (value' := PySem.Expr.Name (PySem.Str.ofString "_") ⟨0, 0, 0, 0⟩) (fun _ => rfl) ?_))
  k_with "subscriptTail Subscript" => (k_here; k_dflt (refine kba_turn (value' := PySem.Expr.Name (PySem.Str.ofString "_") ⟨0, 0, 0, 0⟩) (fun _ => rfl) ?_))
  k_with "subscriptTail Call" => (k_here; k_dflt (refine kba_turn (value' := PySem.Expr.Name (PySem.Str.ofString "_") ⟨0, 0, 0, 0⟩) (fun _ => rfl) ?_))
  k_with "call builtin:len" => (k_here; (with_reducible show wpAny _ _ (call (Value.builtin "len") [Value.ref _]) _ _ _); k_dflt (refine' len_led ?z9k1 ?z9k2 ?z9k3 ?_; (case z9k1 => k_asm); (case z9k2 => k_mem); (case z9k3 => first | assumption | k_dflt (first | lia | omega) | (simp only [List.length_cons, List.length_nil]; k_dflt (first | lia | omega))); k_whole))
  k_with "compareOp Eq ref ref" => (k_here; (with_reducible show wpAny _ _ (compareOp CmpOp.Eq (Value.ref _) (Value.ref _)) _ _ _); k_dflt (refine' eq_nil_led ?z9k1 ?z9k2 ?z9k3 ?z9k4 ?_; (case z9k1 => k_asm); (case z9k2 => k_mem); (case z9k3 => k_mem); (case z9k4 => ktr_units); k_whole))
  k_with "compareOp NotEq ref ref" => (k_here; (with_reducible show wpAny _ _ (compareOp CmpOp.NotEq (Value.ref _) (Value.ref _)) _ _ _); k_dflt (refine' ne_nil_led ?z9k1 ?z9k2 ?z9k3 ?z9k4 ?_; (case z9k1 => k_asm); (case z9k2 => k_mem); (case z9k3 => k_mem); (case z9k4 => ktr_units); k_whole))
  k_with "call builtin:list.pop" => (k_here; (with_reducible show wpAny _ _ (call (Value.builtin _) [Value.ref _, Value.int _ _]) _ _ _); k_dflt (refine' pop0_led ?z9F ?z9N ?z9U ?z9z ?_; (case z9F => k_asm); (case z9N => k_asm); (case z9U => k_upd); (case z9z => first | assumption | k_dflt (first | lia | omega)); k_whole); cell_end 21 0 0; (try k_sweep))
  k_with "call builtin:sum" => (k_here; (with_reducible show wpAny _ _ (call (Value.builtin "sum") [Value.ref _]) _ _ _); k_dflt (refine' sum_led ?z9k0 ?z9k1 ?z9k2 ?z9k3 ?z9k4 ?_; (case z9k0 => with_unfolding_all rfl); (case z9k1 => k_asm); (case z9k2 => k_asm); (case z9k3 => k_mem); (case z9k4 => assumption); k_whole); cell_end 22 0 0; (try k_sweep))
  k_with "eval ListComp" => (k_here; (with_reducible show wpAny _ _ (eval (Expr.ListComp _ [Comprehension.mk _ _ [] _] _ _) _) _ _ _); k_dflt (refine LCg.ListComp_U (F₀ := by k_asm) (by with_unfolding_all rfl) (by decide) (by rfl) (by decide) (by rfl) ?_))
  k_with "eval ListComp" => (k_here; (with_reducible show wpAny _ _ (eval (Expr.ListComp _ [Comprehension.mk _ _ [_] _] _ _) _) _ _ _); k_dflt (refine LCt.ListComp_T (F₀ := by k_asm) (by with_unfolding_all rfl) (by decide) (by rfl) (by decide) (by rfl) ?_))
  k_with "CompSrc" => (k_here; k_dflt (refine' LCg.CompSrc.ledger ?z9kh ?z9kF ?z9kN ?z9km ?_ ?_; (case z9kh => rfl); (case z9kF => k_asm); (case z9kN => k_asm); (case z9km => k_mem); rotate_left; cell_end 24 0 0; (try dsimp only); k_extra "rest"))
  k_with "call builtin:max" => (k_here; (with_reducible show wpAny _ _ (call (Value.builtin "max") [Value.int _ _, Value.int _ _]) _ _ _); k_dflt (refine' max2_led ?z9k0 ?z9k1 ?z9k2 ?_; (case z9k0 => with_unfolding_all rfl); (case z9k1 => k_asm); (case z9k2 => k_asm); k_whole); cell_end 22 0 0; (try k_sweep))
  k_with "call builtin:min" => (k_here; (with_reducible show wpAny _ _ (call (Value.builtin "min") [Value.int _ _, Value.int _ _]) _ _ _); k_dflt (refine' min2_led ?z9k0 ?z9k1 ?z9k2 ?_; (case z9k0 => with_unfolding_all rfl); (case z9k1 => k_asm); (case z9k2 => k_asm); k_whole); cell_end 22 0 0; (try k_sweep))
  k_with "binaryOp Mult ref int" => (k_here; (with_reducible show wpAny _ _ (binaryOp Operator.Mult (Value.ref _) (Value.int _ _)) _ _ _); k_dflt (refine' mulrep_led ?z9k1 ?z9k2 ?z9k3 ?z9k4 ?z9k5 ?_; (case z9k1 => k_asm); (case z9k2 => k_asm); (case z9k3 => k_mem); (case z9k4 => k_dflt (first | lia | omega)); (case z9k5 => k_dflt (first | lia | omega)); k_whole); cell_end 23 0 0; (try k_sweep))
  k_with "setItem ref int" => (k_here; k_dflt (refine' set_led ?z9k1 ?z9k2 ?z9k3 ?z9k4 ?z9k5 ?z9k6 ?_; (case z9k1 => k_asm); (case z9k2 => k_asm); (case z9k3 => k_upd); (case z9k4 => first | assumption | k_dflt (first | lia | omega)); (case z9k5 => first | assumption | k_dflt (first | lia | omega)); (case z9k6 => k_dflt (first | lia | omega)); k_whole); cell_end 21 0 0; (try k_sweep))
  k_with "newList" => (k_here; k_dflt (refine' newList_K ?z9k1 ?z9k2 ?_; (case z9k1 => k_asm); (case z9k2 => k_asm); k_whole); cell_end 23 0 0; (try k_sweep))
  k_with "newTuple" => (k_here; k_dflt (refine' kup_newTuple ?z9k1 ?z9k2 ?_ ?z9kz; (case z9k1 => k_asm); (case z9k2 => k_asm); (case z9kz => exact Nat.le_of_ble_eq_true rfl); k_whole); cell_end 23 0 0; (try k_sweep))
  k_with "call builtin:list.append" => (k_here; (with_reducible show wpAny _ _ (call (Value.builtin _) [Value.ref _, _]) _ _ _); k_dflt (refine' append_led ?z9k1 ?z9k2 ?z9k3 ?z9k4 ?_; (case z9k1 => k_asm); (case z9k2 => k_asm); (case z9k3 => k_upd); (case z9k4 => first | assumption | k_dflt (first | lia | omega)); k_whole); cell_end 21 0 0; (try k_sweep))
  k_with "exec Assign cons ListComp" => (k_here; (with_reducible show wpAny _ _ (exec (Stmt.Assign [_] (Expr.ListComp _ [Comprehension.mk _ _ [_] _] _ _) _) _) _ _ _); k_dflt (refine LCt.Assign_ListComp_T (F₀ := by k_asm) (by rfl) (by with_unfolding_all rfl) (by with_unfolding_all rfl) (by decide) (by rfl) (by decide) (by rfl) (by rfl) (by rfl) ?_))
  k_with "exec Assign cons ListComp" => (k_here; (with_reducible show wpAny _ _ (exec (Stmt.Assign [_] (Expr.ListComp _ [Comprehension.mk _ _ [] _] _ _) _) _) _ _ _); k_dflt (refine LCg.Assign_ListComp_U (F₀ := by k_asm) (by rfl) (by with_unfolding_all rfl) (by with_unfolding_all rfl) (by decide) (by rfl) (by decide) (by rfl) (by rfl) (by rfl) ?_))
  k_with "CompSrcT" => (k_here; k_dflt (refine LCt.CompSrcT.range (by rfl) (by k_asm) (by k_asm) (by assumption) (small_one (by k_dflt (first | lia | omega)) (by k_dflt (first | lia | omega)) (by k_dflt (first | lia | omega)) (by k_dflt (first | lia | omega))) (rangeSize_nat _ _) ?_ ?_; rotate_left; cell_end 24 0 0; (try dsimp only); k_extra "restT"))
  k_with "binaryOp Add ref ref" => (k_here; (with_reducible show wpAny _ _ (binaryOp _ (Value.ref _) (Value.ref _)) _ _ _); k_dflt (refine' addT_led ?z9k1 ?z9k2 ?z9k3 ?z9k4 ?z9k5 ?z9k6 ?z9k7 ?z9k8 ?_; (case z9k1 => k_asm); (case z9k2 => k_asm); (case z9k3 => k_mem); (case z9k4 => k_mem); (case z9k5 => exact rfl); (case z9k6 => exact List.cons_ne_nil _ _); (case z9k7 => exact List.cons_ne_nil _ _); (case z9k8 => exact Nat.le_of_ble_eq_true rfl); k_whole); cell_end 23 0 0; (try k_sweep))
  k_with "call builtin:min" => (k_here; (with_reducible show wpAny _ _ (call (Value.builtin "min") [Value.ref _]) _ _ _); k_dflt (k_extra "min"))
  k_with "CompSrcT" => (k_here; k_dflt (refine' LCt.CompSrcT.ledger ?z9kh ?z9kF ?z9kN ?z9km ?_ ?_; (case z9kh => rfl); (case z9kF => k_asm); (case z9kN => k_asm); (case z9km => k_mem); rotate_left; cell_end 24 0 0; (try dsimp only); k_extra "restT"))
  k_with "subscriptTail Name Constant ref str" => (k_here; (with_reducible show wpAny _ _ (subscriptTail _ _ (Value.ref _) (Value.str _ _)) _ _ _); k_dflt (refine' kda_item (knd := PySem.strKind _ _) ?z9N ?z9hp ?z9hd (strKind_is _ _ _ _) ?z9hl ?_ ?z9hs ?z9hg; (case z9N => k_asm); (case z9hp => k_mem); (case z9hd => assumption); (case z9hl => rfl); (case z9hs => with_unfolding_all rfl); (case z9hg => intro _; with_unfolding_all rfl)); k_whole)
  k_with "setItem ref str" => (k_here; k_dflt (refine' kda_set (knd := PySem.strKind _ _) ?z9F ?z9N ?z9U ?z9d (strKind_is _ _ _ _) ?z9z ?_; (case z9F => k_asm); (case z9N => k_asm); (case z9U => k_updF); (case z9d => assumption); (case z9z => rw [sizeLine_eq]; exact Nat.le_of_ble_eq_true (by with_unfolding_all rfl))); cell_end 25 0 0)
  k_with "exec For Tuple Call" => (k_here; k_dflt (refine' For_turns ?z9lF ?_; (case z9lF => k_asm); k_whole))
  k_with "call type:enumerate" => (k_here; k_dflt (refine' ktu_enum ?z9hh ?z9F ?z9N ?z9hm ?z9hc ?z9hd ?z9hx ?_; (case z9hh => rfl); (case z9F => k_asm); (case z9N => k_asm); (case z9hm => k_mem); (case z9hc => rfl); (case z9hd => rfl); (case z9hx => rfl); k_extra "items"))
  k_with "compareOp NotEq ref ref" => (k_here; (with_reducible show wpAny _ _ (compareOp CmpOp.NotEq (Value.ref _) (Value.ref _)) _ _ _); k_dflt (first | (refine' ne_nil_led ?z9k1 ?z9k2 ?z9k3 ?z9k4 ?_; (case z9k1 => k_asm); (case z9k2 => k_mem); (case z9k3 => k_mem); (case z9k4 => ktr_units)) | (refine' ne_tup2 ?z9k1 ?z9k2 ?z9k3 ?z9k4 ?_; (case z9k1 => k_asm); (case z9k2 => k_mem); (case z9k3 => k_mem); (case z9k4 => ktr_units)) | (refine' ne_tup3 ?z9k1 ?z9k2 ?z9k3 ?z9k4 ?_; (case z9k1 => k_asm); (case z9k2 => k_mem); (case z9k3 => k_mem); (case z9k4 => ktr_units))); k_whole)
  k_with "exec For Name Name cons nil" => (k_here; k_dflt (refine' For_turns ?z9lF ?_; (case z9lF => k_asm); k_whole))
  k_with "exec For Name Call cons nil" => (k_here; k_dflt (refine' For_turns ?z9lF ?_; (case z9lF => k_asm); k_whole))
  k_with "pyIter ref" => (k_here; (with_reducible show wpAny _ _ (pyIter (Value.ref _)) (fun it s₂ => TurnsAt _ _ _ _ _ _ _ _ _ it s₂) _ _); k_dflt (first | (refine' iter_rangeTurns ?z9hh ?z9hr ?z9hs ?z9hn ?z9F ?z9N ?_; (case z9hh => rfl); (case z9hr => assumption); (case z9hs => first | decide | exact small_one (by k_dflt (first | lia | omega)) (by k_dflt (first | lia | omega)) (by k_dflt (first | lia | omega)) (by k_dflt (first | lia | omega))); (case z9hn => exact rangeSize_nat _ _); (case z9F => k_asm); (case z9N => k_asm); k_extra "items") | (refine' iter_listTurns ?z9hh ?z9F ?z9N ?z9hm ?z9hc ?z9hd ?_; (case z9hh => rfl); (case z9F => k_asm); (case z9N => k_asm); (case z9hm => k_mem); (case z9hc => rfl); (case z9hd => rfl); k_extra "items")))
  k_with "exec While Compare cons nil" => (k_here; k_dflt (k_extra "while"))
  k_with "exec While Constant cons nil" => (k_here; k_dflt (k_extra "while"))
  k_with "UnrEndW" => refine hold ?_
  k_with "eval ListComp" => (k_here; (with_reducible show wpAny _ _ (eval (Expr.ListComp _ [Comprehension.mk (Expr.Tuple _ _ _) _ [] _] _ _) _) _ _ _); k_dflt (refine LCp.ListComp_P (F₀ := by k_asm) (by with_unfolding_all rfl) (by decide) (by rfl) (by decide) (by rfl) (by rfl) (by decide) ?_))
  k_with "SrcLP" => (k_here; k_dflt (refine' LCp.SrcLP.ledger ?z9kh ?z9kF ?z9kN ?z9km ?_ ?_; (case z9kh => rfl); (case z9kF => k_asm); (case z9kN => k_asm); (case z9km => k_mem); rotate_left; cell_end 24 0 0; (try dsimp only); k_extra "restP"))
  k_with "exec Raise some none" => (k_here; k_dflt (k_extra "raise"))
  k_with "CompSrc" => (k_here; k_dflt (refine LCg.CompSrc.range (by rfl) (by k_asm) (by k_asm) (by assumption) (small_one (by k_dflt (first | lia | omega)) (by k_dflt (first | lia | omega)) (by k_dflt (first | lia | omega)) (by k_dflt (first | lia | omega))) (rangeSize_nat _ _) ?_ ?_; rotate_left; cell_end 24 0 0; (try dsimp only); k_extra "rest"))
  k_with "subscriptTail List Call ref int" => (k_here; k_dflt (k_extra "menu"))
  k_with "exec For Tuple Subscript cons nil" => (k_here; k_dflt (refine' For_turns ?z9lF ?_; (case z9lF => k_asm); k_whole))
  k_with "subscriptTail Name Slice ref ref" => (k_here; (with_reducible show wpAny _ _ (subscriptTail _ (PySem.Expr.Slice (some _) none none _) (Value.ref _) (Value.ref _)) _ _ _); k_dflt (refine' slice_led ?z9F ?z9N ?z9l ?z9x ?z9z ?_ ?z9s ?z9t; (case z9F => k_asm); (case z9N => k_asm); (case z9l => k_mem); (case z9x => k_dflt (first | lia | omega)); (case z9z => first | assumption | k_dflt (first | lia | omega)); (case z9s => with_unfolding_all rfl); (case z9t => kmk_pure)); cell_end 23 0 0; (try k_sweep))
  k_with "k_mem" => (first | exact List.Mem.head _ | (refine' List.Mem.tail _ ?_; k_mem) | assumption)
  k_with "ask2" => ((case kA => exact rfl); (case kF => exact rfl); (case kK => assumption); (case k1 => k_asm); (case k2 => k_asm); (case k3 => k_asm); (case k4 => k_asm); (case k5 => k_asm); (case k6 => k_is); (case k7 => k_is); (case k8 => ktr_room); (case k9 => first | exact BindsTo.of_eq rfl | exact binds_K (by k_in) rfl (by k_is) rfl rfl rfl); (case c5 => decide); (case kB => exact locs rfl); (case c2 => exact rfl); (case c3 => exact rfl); (case c4 => exact rfl); k_whole)
  k_with "askC2" => ((case kA => exact rfl); (case kF => exact rfl); (case kK => assumption); (case k1 => k_asm); (case k2 => k_asm); (case k3 => k_asm); (case k4 => k_asm); (case k5 => k_asm); (case k6 => k_is); (case k7 => k_is); (case k8 => ktr_room); (case k9 => first | exact BindsTo.of_eq rfl | exact binds_K (by k_in) rfl (by k_is) rfl rfl rfl); (case kB => exact rfl); (case kD => decide +kernel); (case c2 => exact rfl); (case c3 => exact rfl); (case c4 => exact rfl); k_whole)
  k_with "cell_call" => ((case k1 => k_asm); (case k2 => k_asm); (case k3 => k_asm); (case k4 => k_asm); (case k5 => k_asm); (case kK => first | exact rfl | assumption); (case kd => ktr_room); (case ku => ktr_units))
  k_with "k_all" => (first | exact List.forall_mem_nil _ | (refine List.forall_mem_cons.mpr ⟨?_, ?_⟩; (focus k_ne); k_all) | exact OwnOff.ne (by with_reducible assumption) (by k_memK) | exact fresh_ne (by with_reducible assumption) (by intro p hp; k_mem))
  k_with "k_ne" => (first | ((try dsimp only); first | (refine' NeA.ne ?z5h; (case z5h => with_reducible assumption)) | (refine' NeA.en ?z5h; (case z5h => with_reducible assumption)) | (refine' fresh1 ?z5h ?z5m; (case z5h => with_reducible assumption); (case z5m => k_mem)) | (refine' fresh2 ?z5h ?z5m; (case z5h => with_reducible assumption); (case z5m => k_mem))) | (refine neN ?_; (try dsimp only); k_dflt (first | lia | omega)))
  k_with "lcg_sub" => (first | exact List.forall_mem_nil _ | (refine List.forall_mem_cons.mpr ⟨?_, ?_⟩; (focus k_mem); lcg_sub) | (intro p hp; k_mem))
  k_with "ke_reads" => (first | exact List.forall_mem_nil _ | (refine List.forall_mem_cons.mpr ⟨?_, ?_⟩; (focus k_all); ke_reads))
  k_with "cell_step" => (cell_call; (case kp => lcg_src); (case ko => ke_reads))
  k_with "k_in" => (first | k_in_fast | with_reducible assumption | (with_reducible (refine' in_fr ?z4F ?z4X; (case z4F => assumption); (case z4X => assumption))))
  k_with "ends" => ((case F1 => k_asm); (case N1 => k_asm); (case s1 => first | exact fun _ hp => hp | exact fun _ hp => List.Mem.tail _ hp | exact fun _ hp => List.Mem.tail _ (List.Mem.tail _ hp) | lcg_sub))
  k_with "ne" => (first | infer_instance | exact neWorld | exact neShared | exact neAround | exact neParams | exact neItm | exact ⟨default⟩)
  k_with "ep" => (refine @all_epA _ (by k_extra "ne") _ ?_)
  k_with "epq" => (clear zq)
  k_with "epx" => (have zk := @epE_spec _ (by k_extra "ne") _ zh; clear zh)
  k_with "epe" => (replace zk := exE zk)
  k_with "epa" => (have zj := And.left zh; have zk := And.right zh; clear zh)
  k_with "epj" => (clear zj)
  k_with "epk" => (clear zk)
  k_with "cx" => (refine @all_epA _ neCx _ ?_; generalize epA _ _ = zc; refine exI ?_; generalize Cx.p zc = p, Cx.loose zc = loose, Cx.mean zc = mean, Cx.mg zc = mg, Cx.mb zc = mb, Cx.dp zc = dp, Cx.un zc = un, Cx.gd zc = gd, Cx.cn zc = cn, Cx.cs zc = cs, Cx.a zc = a, Cx.ccd zc = ccd, Cx.cl zc = cl, Cx.outer zc = outer, Cx.A₀ zc = A₀, Cx.base zc = base, Cx.h₀ zc = h₀, Cx.L zc = L, Cx.m zc = m, Cx.s zc = s, Cx.Q zc = Q, Cx.E zc = E; clear zc)
  k_with "cxa" => (refine @all_epA _ neCx _ ?_; generalize epA _ _ = zc; refine exI ?_; generalize Cx.p zc = p, Cx.loose zc = loose, Cx.mean zc = mean, Cx.mg zc = mg, Cx.mb zc = mb, Cx.dp zc = dp, Cx.un zc = un, Cx.gd zc = gd, Cx.cn zc = cn, Cx.cs zc = cs, Cx.a zc = ac, Cx.ccd zc = ccd, Cx.cl zc = cl, Cx.outer zc = outer, Cx.A₀ zc = A₀, Cx.base zc = base, Cx.h₀ zc = h₀, Cx.L zc = L, Cx.m zc = m, Cx.s zc = s, Cx.Q zc = Q, Cx.E zc = E; clear zc)
  k_with "i2" => (refine all_2 ?_ ?_; (focus (repeat' (first | exact neWorld | exact neShared | exact neAround | exact neParams | exact neItm | refine nePr ?_ ?_ | infer_instance | exact ⟨default⟩))); generalize ep2 _ _ = zq; refine ex2 ?_)
  k_with "i3" => (refine all_3 ?_ ?_; (focus (repeat' (first | exact neWorld | exact neShared | exact neAround | exact neParams | exact neItm | refine nePr ?_ ?_ | infer_instance | exact ⟨default⟩))); generalize ep3 _ _ = zq; refine ex3 ?_)
  k_with "i4" => (refine all_4 ?_ ?_; (focus (repeat' (first | exact neWorld | exact neShared | exact neAround | exact neParams | exact neItm | refine nePr ?_ ?_ | infer_instance | exact ⟨default⟩))); generalize ep4 _ _ = zq; refine ex4 ?_)
  k_with "i5" => (refine all_5 ?_ ?_; (focus (repeat' (first | exact neWorld | exact neShared | exact neAround | exact neParams | exact neItm | refine nePr ?_ ?_ | infer_instance | exact ⟨default⟩))); generalize ep5 _ _ = zq; refine ex5 ?_)
  k_with "i6" => (refine all_6 ?_ ?_; (focus (repeat' (first | exact neWorld | exact neShared | exact neAround | exact neParams | exact neItm | refine nePr ?_ ?_ | infer_instance | exact ⟨default⟩))); generalize ep6 _ _ = zq; refine ex6 ?_)
  k_with "i7" => (refine all_7 ?_ ?_; (focus (repeat' (first | exact neWorld | exact neShared | exact neAround | exact neParams | exact neItm | refine nePr ?_ ?_ | infer_instance | exact ⟨default⟩))); generalize ep7 _ _ = zq; refine ex7 ?_)
  k_with "i8" => (refine all_8 ?_ ?_; (focus (repeat' (first | exact neWorld | exact neShared | exact neAround | exact neParams | exact neItm | refine nePr ?_ ?_ | infer_instance | exact ⟨default⟩))); generalize ep8 _ _ = zq; refine ex8 ?_)
  k_with "eph" => (clear zh)
  k_with "sub" => (first | exact sub_nil | (refine sub_cons ?_ ?_; (focus (k_extra "mem")); k_extra "sub") | (refine sub_app ?_ ?_; (focus (k_extra "sub")); k_extra "sub") | k_extra "incl")
  k_with "mem" => (with_reducible (first | exact List.mem_cons_self .. | (refine List.mem_cons_of_mem _ ?_; k_extra "mem") | (refine List.mem_append_left _ ?_; k_extra "mem") | (refine List.mem_append_right _ ?_; k_extra "mem") | assumption))
  k_with "incl" => (with_reducible (first | exact fun _ h => h | (refine sub_tail ?_; k_extra "incl") | (refine sub_left ?_; k_extra "incl") | (refine sub_right ?_; k_extra "incl")))
  k_with "room" => ((try dsimp only [depth_under_make, depth_under_kw, depth_in1, depth_deeper, depth_caller, ktrTop]); first | exact room_lt0 (by assumption) | exact room_lt (by assumption) (by decide) | exact room_lt2 (by assumption) (by decide) | exact room_lt3 (by assumption) (by decide))
  k_with "units" => ((try dsimp only [units_in1, units_deeper, Around.mark_units, units_caller, ktrTop]); first | exact room_lt0 (by assumption) | exact room_lt (by assumption) (by decide) | exact room_lt2 (by assumption) (by decide) | exact room_lt3 (by assumption) (by decide))
  trivial
-- DrN
example : True := by
  w_top off
  trivial
section
theorem compEnd_post {h₀ : Heap} {L I C D : Addr} {m : Str → Option Value} {s₁ : Shared} {oI oC oD : Obj} {S : Led → Prop} {rest : Value → Led → Prop} {y : Value} {h' : Heap} {tk : Nat} {news post : Led}
    (F : Fr h₀ L h' m) (N : News h₀ L h' (post ++ (I, oI) :: (C, oC) :: (D, oD) :: news)) (off : LCg.Off3 I C D news) (fr : ∀ q ∈ post, ∀ p ∈ ((I, oI) :: (C, oC) :: (D, oD) :: news : Led), p.1 ≠ q.1) (hS : S (post ++ news)) (r : rest y (post ++ news)) :
    LCg.CompEnd h₀ L m s₁ I oI C oC D oD S rest y { s₁ with heap := h', toks := tk } :=
  LCg.CompEnd.intro F N (post ++ news) (fun p hp => by
    rcases List.mem_cons.mp hp with rfl | hp
    · exact List.mem_append_right _ (.head _)
    rcases List.mem_cons.mp hp with rfl | hp
    · exact List.mem_append_right _ (.tail _ (.head _))
    rcases List.mem_cons.mp hp with rfl | hp
    · exact List.mem_append_right _ (.tail _ (.tail _ (.head _)))
    rcases List.mem_append.mp hp with hp | hp
    · exact List.mem_append_left _ hp
    · exact List.mem_append_right _ (.tail _ (.tail _ (.tail _ hp)))) (LCg.Off3.of fun p hp => by
    rcases List.mem_append.mp hp with hp | hp
    · exact ⟨(fr p hp _ (.head _)).symm, (fr p hp _ (.tail _ (.head _))).symm, (fr p hp _ (.tail _ (.tail _ (.head _)))).symm⟩
    · exact off.mem p hp) hS r
theorem drNew_fin {h₀ h : Heap} {L Dl lz Dr r1 rd1 t1 r0 rd0 t0 Dq lE x' d' cq tk : Nat} {q0 q1 : Int} {u0 u1 : Tok} {RT0 RT1 : RowT} {v1 v2 v3 v4 u40 u50 u41 u51 : Nat} {y1 y2 y3 y4 y5 : Int} {k1' k2' k3' k4' k5' : Nat} {ta : Nat} {o1 o2 z1 z2 z3 : Obj} {R G0 G1 : Led} {a1 : Nat} {c1 c2 c3 d1 d2 d3 : Addr × Obj}
    (NN : News h₀ L h ((Dl, listOf (List.replicate (([.int q0 u0, .int q1 u1] : List Value).length : Int).toNat (.int 0 tk)).toArray 0) :: (lz, z1) :: (Dr, listOf #[.ref r0, .ref r1] a1) :: (r1, instObj 106 rd1) :: (rd1, rowD RT1 v3 v4 u41 u51 20 200 t1 0 0) :: (t1, listOf ([] : List Value).toArray 0) ::
      (r0, instObj 106 rd0) :: (rd0, rowD RT0 v1 v2 u40 u50 20 200 t0 0 0) :: (t0, listOf ([] : List Value).toArray 0) :: (Dq, listOf #[.int q0 u0, .int q1 u1] cq) :: (lE, z2) :: (x', instObj 165 d') :: (d', drD ⟨y1, y2, y3, y4, y5, k1', k2', k3', k4', k5'⟩ Dq Dr Dl 0 ta false) :: R))
    (lDl : ∀ p ∈ ((lz, z3) :: (Dr, o1) :: (r1, instObj 106 rd1) :: (rd1, rowD RT1 v3 v4 u41 u51 20 200 t1 0 0) :: (t1, listOf ([] : List Value).toArray 0) ::
      (r0, instObj 106 rd0) :: (rd0, rowD RT0 v1 v2 u40 u50 20 200 t0 0 0) :: (t0, listOf ([] : List Value).toArray 0) :: (Dq, listOf #[.int q0 u0, .int q1 u1] cq) :: (lE, z2) :: (x', instObj 165 d') :: (d', o2) :: R : Led), p.1 < Dl)
    (oDr : (@Ne Nat r1 Dr) ∧ (@Ne Nat rd1 Dr) ∧ (@Ne Nat t1 Dr) ∧ (@Ne Nat r0 Dr) ∧ (@Ne Nat rd0 Dr) ∧ (@Ne Nat t0 Dr) ∧ (@Ne Nat Dq Dr) ∧ (@Ne Nat lE Dr) ∧ (@Ne Nat x' Dr) ∧ (@Ne Nat d' Dr) ∧ LCg.Off1 Dr R)
    (hq : lE < Dq ∧ x' < Dq ∧ d' < Dq ∧ AllLt Dq R)
    (g0 : ∀ p ∈ (c1 :: c2 :: c3 :: (Dq, listOf #[.int q0 u0, .int q1 u1] cq) :: G0 : Led), p.1 ≠ t0)
    (g1 : ∀ p ∈ (d1 :: d2 :: d3 :: (r0, instObj 106 rd0) :: (rd0, rowD RT0 v1 v2 u40 u50 20 200 t0 0 0) :: (t0, listOf ([] : List Value).toArray 0) :: (Dq, listOf #[.int q0 u0, .int q1 u1] cq) :: G1 : Led), p.1 ≠ t1)
    (l1 : ∀ p ∈ R, p.1 < d') (l2 : d' < x') (f2 : NeA d' rd0) (f3 : NeA d' t0) (e2 : NeA d' rd1) (e3 : NeA d' t1) (e7 : NeA rd0 rd1)
    (f4 : ∀ p ∈ R, p.1 ≠ r0) (f5 : ∀ p ∈ R, p.1 ≠ rd0) (f6 : ∀ p ∈ R, p.1 ≠ t0) (e4 : ∀ p ∈ R, p.1 ≠ r1) (e5 : ∀ p ∈ R, p.1 ≠ rd1) (e6 : ∀ p ∈ R, p.1 ≠ t1) :
    ∃ W, (∀ p ∈ W ++ R, p ∈ ((Dl, listOf (List.replicate (([.int q0 u0, .int q1 u1] : List Value).length : Int).toNat (.int 0 tk)).toArray 0) :: (lz, z1) :: (Dr, listOf #[.ref r0, .ref r1] a1) :: (r1, instObj 106 rd1) :: (rd1, rowD RT1 v3 v4 u41 u51 20 200 t1 0 0) :: (t1, listOf ([] : List Value).toArray 0) :: (r0, instObj 106 rd0) :: (rd0, rowD RT0 v1 v2 u40 u50 20 200 t0 0 0) :: (t0, listOf ([] : List Value).toArray 0) :: (Dq, listOf #[.int q0 u0, .int q1 u1] cq) :: (lE, z2) :: (x', instObj 165 d') :: (d', drD ⟨y1, y2, y3, y4, y5, k1', k2', k3', k4', k5'⟩ Dq Dr Dl 0 ta false) :: R : Led)) ∧ DrAt x' ⟨q0, q1, [], [], 0, 0, false, false⟩ W ∧ ∀ p ∈ W, ∀ r ∈ R, p.1 ≠ r.1 := by
  have lt : ∀ {b : Nat} {o : Obj}, (b, o) ∈ _ → b < Dl := fun h => lDl _ h
  obtain ⟨k1, k2, k3, k4, k5, k6, k7, k8, k9, k10, k11⟩ := oDr
  have kR := off1_mem k11
  have hqt0 : Dq ≠ t0 := g0 (Dq, _) (.tail _ (.tail _ (.tail _ (.head _))))
  have hqt1 : Dq ≠ t1 := g1 (Dq, _) (.tail _ (.tail _ (.tail _ (.tail _ (.tail _ (.tail _ (.head _)))))))
  have ht01 : t0 ≠ t1 := g1 (t0, _) (.tail _ (.tail _ (.tail _ (.tail _ (.tail _ (.head _))))))
  have gt1 := lDl (t1, _) (by k_mem)
  have gt0 := lDl (t0, _) (by k_mem)
  have grd1 := lDl (rd1, _) (by k_mem)
  have grd0 := lDl (rd0, _) (by k_mem)
  have gr1 := lDl (r1, _) (by k_mem)
  have gr0 := lDl (r0, _) (by k_mem)
  have gDq := lDl (Dq, _) (by k_mem)
  have gDr := lDl (Dr, _) (by k_mem)
  have gx := lDl (x', _) (by k_mem)
  have gd := lDl (d', _) (by k_mem)
  have gR : ∀ p ∈ R, p.1 < Dl := fun p hp => lDl p (by k_mem)
  dsimp only at gt1 gt0 grd1 grd0 gr1 gr0 gDq gDr gx gd
  have n1 := led_ne NN (a := x') (b := rd0) (by k_mem) (by k_mem)
  have n2 := led_ne NN (a := x') (b := t0) (by k_mem) (by k_mem)
  have n3 := led_ne NN (a := x') (b := rd1) (by k_mem) (by k_mem)
  have n4 := led_ne NN (a := x') (b := t1) (by k_mem) (by k_mem)
  have n5 := led_ne NN (a := r0) (b := rd0) (by k_mem) (by k_mem)
  have n6 := led_ne NN (a := r0) (b := t0) (by k_mem) (by k_mem)
  have n7 := led_ne NN (a := r0) (b := rd1) (by k_mem) (by k_mem)
  have n8 := led_ne NN (a := r0) (b := t1) (by k_mem) (by k_mem)
  have n9 := led_ne NN (a := r1) (b := rd0) (by k_mem) (by k_mem)
  have n10 := led_ne NN (a := r1) (b := t0) (by k_mem) (by k_mem)
  have n11 := led_ne NN (a := r1) (b := rd1) (by k_mem) (by k_mem)
  have n12 := led_ne NN (a := r1) (b := t1) (by k_mem) (by k_mem)
  have n13 := led_ne NN (a := r0) (b := d') (by k_mem) (by k_mem)
  have n14 := led_ne NN (a := r1) (b := d') (by k_mem) (by k_mem)
  have n15 := led_ne NN (a := Dq) (b := d') (by k_mem) (by k_mem)
  have n16 := led_ne NN (a := Dq) (b := rd0) (by k_mem) (by k_mem)
  have n17 := led_ne NN (a := Dq) (b := rd1) (by k_mem) (by k_mem)
  have n18 := led_ne NN (a := Dr) (b := d') (by k_mem) (by k_mem)
  have n19 := led_ne NN (a := Dr) (b := rd0) (by k_mem) (by k_mem)
  have n20 := led_ne NN (a := Dr) (b := rd1) (by k_mem) (by k_mem)
  have n21 := led_ne NN (a := rd0) (b := t0) (by k_mem) (by k_mem)
  have n22 := led_ne NN (a := rd0) (b := t1) (by k_mem) (by k_mem)
  have n23 := led_ne NN (a := t0) (b := rd1) (by k_mem) (by k_mem)
  have n24 := led_ne NN (a := rd1) (b := t1) (by k_mem) (by k_mem)
  have hqR := kst_ltOf hq.2.2.2
  refine ⟨drM ⟨d', Dq, Dr, Dl, ⟨y1, y2, y3, y4, y5, k1', k2', k3', k4', k5'⟩, ta, u0, u1, tk, tk, cq, a1, 0, ⟨r0, rd0, t0, RT0, v1, v2, u40, u50, 20, 200, 0, 0, [], 0⟩, ⟨r1, rd1, t1, RT1, v3, v4, u41, u51, 20, 200, 0, 0, [], 0⟩⟩ ⟨q0, q1, [], [], 0, 0, false, false⟩ ++
    [(x', instObj 165 d'), (Dq, listOf #[.int q0 u0, .int q1 u1] cq), (Dr, listOf #[.ref r0, .ref r1] a1), (r0, instObj 106 rd0), (r1, instObj 106 rd1)], ?_, ⟨_, _, rfl, .head _, .tail _ (.head _), .tail _ (.tail _ (.head _)), .tail _ (.tail _ (.tail _ (.head _))), .tail _ (.tail _ (.tail _ (.tail _ (.head _)))), .nil, .nil, ⟨rfl, rfl, rfl⟩, ⟨rfl, rfl, rfl⟩, ?_, ?_⟩, ?_⟩
  · simp only [drM, List.cons_append, List.nil_append]
    lcg_sub
  · simp only [drA, List.nodup_cons, List.mem_cons, List.not_mem_nil, or_false, not_or, not_false_eq_true, List.nodup_nil, and_true]
    exact ⟨⟨Nat.ne_of_lt gd, f2, f3, e2, e3⟩, ⟨Nat.ne_of_gt grd0, Nat.ne_of_gt gt0, Nat.ne_of_gt grd1, Nat.ne_of_gt gt1⟩, ⟨n21, e7, n22⟩, ⟨n23, ht01⟩, n24⟩
  · unfold OwnOff
    exact sub_cons (sub_cons (Nat.ne_of_gt l2) (sub_cons (Nat.ne_of_lt gx) (sub_cons (n1) (sub_cons (n2) (sub_cons (n3) (sub_cons (n4) (sub_nil))))))) (sub_cons (sub_cons (n15) (sub_cons (Nat.ne_of_lt gDq) (sub_cons (n16) (sub_cons (hqt0) (sub_cons (n17) (sub_cons (hqt1) (sub_nil))))))) (sub_cons (sub_cons (n18) (sub_cons (Nat.ne_of_lt gDr) (sub_cons (n19) (sub_cons (k6.symm) (sub_cons (n20) (sub_cons (k3.symm) (sub_nil))))))) (sub_cons (sub_cons (n13) (sub_cons (Nat.ne_of_lt gr0) (sub_cons (n5) (sub_cons (n6) (sub_cons (n7) (sub_cons (n8) (sub_nil))))))) (sub_cons (sub_cons (n14) (sub_cons (Nat.ne_of_lt gr1) (sub_cons (n9) (sub_cons (n10) (sub_cons (n11) (sub_cons (n12) (sub_nil))))))) (sub_nil)))))
  · exact sub_app (sub_cons (fun r hr => Nat.ne_of_gt (l1 r hr)) (sub_cons (fun r hr => Nat.ne_of_gt (gR r hr)) (sub_cons (fun r hr => (f5 r hr).symm) (sub_cons (fun r hr => (f6 r hr).symm) (sub_cons (fun r hr => (e5 r hr).symm) (sub_cons (fun r hr => (e6 r hr).symm) (sub_nil))))))) (sub_cons (fun r hr => Nat.ne_of_gt (Nat.lt_trans (l1 r hr) l2)) (sub_cons (fun r hr => Nat.ne_of_gt (hqR r hr)) (sub_cons (fun r hr => (kR r hr).symm) (sub_cons (fun r hr => (f4 r hr).symm) (sub_cons (fun r hr => (e4 r hr).symm) (sub_nil))))))
section
open EpsOn EpsNf
theorem drNew (w : World) (qa la t1 t2 ep1 ep2 : Nat) (q0 q1 : Int) (u0 u1 v1 v2 v3 v4 : Tok) (R : Led) (h0 : 1 ≤ q0) (h1 : 1 ≤ q1) (m1 : (qa, listOf #[.int q0 u0, .int q1 u1] ep1) ∈ R) (m2 : (la, listOf #[.ref t1, .ref t2] ep2) ∈ R)
    (m3 : (t1, tupOf #[.int 20 v1, .int 200 v2] 0) ∈ R) (m4 : (t2, tupOf #[.int 20 v3, .int 200 v4] 0) ∈ R) :
    Con w 165 [.ref qa, .ref la] 12 900 R (fun v post => ∃ q W, v = .ref q ∧ post = W ++ R ∧ DrAt q ⟨q0, q1, [], [], 0, 0, false, false⟩ W ∧ ∀ p ∈ W, ∀ r ∈ R, p.1 ≠ r.1) := by
  revert w qa la t1 t2 ep1 ep2 q0 q1 u0 u1 v1 v2 v3 v4 R h0 h1 m1 m2 m3 m4
  intro w qa la t1 t2 ep1 ep2 q0 q1 u0 u1 v1 v2 v3 v4 R h0 h1 m1 m2 m3 m4
  refine con_cx ?_
  k_extra "cx"
  intro B F X N T hk hd hu hret
  refine' call_clsK ?k1 ?k2 ?k3 ?k4 ?k5 ?k6 ?_
  (case k1 => k_asm); (case k2 => k_asm); (case k3 => k_asm); (case k4 => k_is); (case k5 => k_is); (case k6 => k_is)
  intro x' d' h' F' N' l1 l2 l3
  k_dflt (cell_ask [(Str.ofString "self", .ref x'), (Str.ofString "quanta", .ref qa), (Str.ofString "limits", .ref la)])
  rename_i g1 L1 h1 FG1 F1 N1 B1 X1 T1 hin1 l11
  k_with "con" => (refine hold ?_)
  k_with "raise" => (refine hold ?_)
  k_with "min" => (refine hold ?_)
  k_steps
  · rename (_ : Int) ≠ _ => hx; simp at hx
  · rename List.isEmpty _ = true => hx; simp at hx
  · unfold Hold
    have hi : IntsAre [.int q0 u0, .int q1 u1] [q0, q1] := .cons _ _ (.cons _ _ .nil)
    refine' min_led (ns := [q0, q1]) ?k0 ?k1 ?k2 ?k3 ?k4 ?k5 ?_
    (case k0 => with_unfolding_all rfl); (case k1 => k_asm); (case k2 => k_asm); (case k3 => k_mem); (case k4 => exact hi); (case k5 => exact Nat.zero_lt_succ _)
    intro h2 M tM tkM F2 N2 hM1 hM2
    have hM : 1 ≤ M := by
      simp at hM1
      (first | lia | omega)
    have hoff : OwnOff R [d'] := fun p hp b hb => by
      rw [List.mem_singleton.mp hb]; exact Nat.ne_of_lt (l1 p hp)
    have hoff2 : OwnOff R [x'] := fun p hp b hb => by
      rw [List.mem_singleton.mp hb]; exact Nat.ne_of_lt (Nat.lt_trans (l1 p hp) l2)
    have nxd : NeA d' x' := Nat.ne_of_lt l2
    k_steps
    unfold Hold
    refine' con_upd (rowNew_con w 20 200 v1 v2 (by decide) (by decide)) ?k1 ?k2 ?k3 ?k4 ?k5 ?kK ?kp ?ko ?kd ?ku ?_
    cell_call
    (case kp => exact .nil)
    (case ko => exact fun _ h => (List.not_mem_nil h).elim)
    rintro r' post h' tk' ⟨r0, rd0, t0, RT0, u40, u50, rfl, rfl⟩ F' N' fr0
    have fr1 := fun (q : Addr × Obj) hq => (fr0 q hq).resolve_left (List.not_mem_nil (a := q.1))
    clear fr0
    have f1 : NeA d' r0 := fr1 (r0, _) (.head _) (d', _) (by k_mem)
    have f2 : NeA d' rd0 := fr1 (rd0, _) (.tail _ (.head _)) (d', _) (by k_mem)
    have f3 : NeA d' t0 := fr1 (t0, _) (.tail _ (.tail _ (.head _))) (d', _) (by k_mem)
    have g0 := fr1 (t0, _) (.tail _ (.tail _ (.head _)))
    have f4 : ∀ p ∈ R, p.1 ≠ r0 := fun p hp => fr1 (r0, _) (.head _) p (by k_mem)
    have f5 : ∀ p ∈ R, p.1 ≠ rd0 := fun p hp => fr1 (rd0, _) (.tail _ (.head _)) p (by k_mem)
    have f6 : ∀ p ∈ R, p.1 ≠ t0 := fun p hp => fr1 (t0, _) (.tail _ (.tail _ (.head _))) p (by k_mem)
    k_steps
    refine compEnd_post (by assumption) (by assumption) (by assumption) fr1 (Or.inr ⟨_, by k_mem, rfl, _, rfl⟩) ?_
    simp only [List.cons_append, List.nil_append]
    clear fr1
    k_steps
    unfold Hold
    refine' con_upd (rowNew_con w 20 200 v3 v4 (by decide) (by decide)) ?k1 ?k2 ?k3 ?k4 ?k5 ?kK ?kp ?ko ?kd ?ku ?_
    cell_call
    (case kp => exact .nil)
    (case ko => exact fun _ h => (List.not_mem_nil h).elim)
    rintro r' post h' tk' ⟨r1, rd1, t1', RT1, u41, u51, rfl, rfl⟩ F' N' fr0
    have fr1 := fun (q : Addr × Obj) hq => (fr0 q hq).resolve_left (List.not_mem_nil (a := q.1))
    clear fr0
    have e1 : NeA d' r1 := fr1 (r1, _) (.head _) (d', _) (by k_mem)
    have e2 : NeA d' rd1 := fr1 (rd1, _) (.tail _ (.head _)) (d', _) (by k_mem)
    have e3 : NeA d' t1' := fr1 (t1', _) (.tail _ (.tail _ (.head _))) (d', _) (by k_mem)
    have gt1 := fr1 (t1', _) (.tail _ (.tail _ (.head _)))
    have e4 : ∀ p ∈ R, p.1 ≠ r1 := fun p hp => fr1 (r1, _) (.head _) p (by k_mem)
    have e5 : ∀ p ∈ R, p.1 ≠ rd1 := fun p hp => fr1 (rd1, _) (.tail _ (.head _)) p (by k_mem)
    have e6 : ∀ p ∈ R, p.1 ≠ t1' := fun p hp => fr1 (t1', _) (.tail _ (.tail _ (.head _))) p (by k_mem)
    have e7 : NeA rd0 rd1 := fr1 (rd1, _) (.tail _ (.head _)) (rd0, _) (by k_mem)
    have e8 : NeA t0 t1' := fr1 (t1', _) (.tail _ (.tail _ (.head _))) (t0, _) (by k_mem)
    refine compEnd_post (by assumption) (by assumption) (by assumption) fr1 (Or.inr ⟨_, by k_mem, rfl, _, rfl⟩) ?_
    simp only [List.cons_append, List.nil_append]
    clear fr1
    have hln : ([.int q0 u0, .int q1 u1] : List Value).length = 2 := rfl
    k_steps
    obtain ⟨W, hW, hA, hoffW⟩ := drNew_fin (by with_reducible assumption) (by with_reducible assumption) (by with_reducible assumption) (by with_reducible assumption) g0 gt1 l1 l2 f2 f3 e2 e3 e7 f4 f5 f6 e4 e5 e6
    exact con_end hret (con_in l3 hin1) (by assumption) (by assumption) (by assumption) (by assumption) (W ++ R) hW ⟨x', W, rfl, rfl, hA, hoffW⟩
end
end
example : True := by
  k_with_none
  k_with "call ref" => (k_here; k_dflt (k_extra "con"))
  k_with "binaryOp FloorDiv int int" => (k_here; k_dflt (refine floordiv_int (by k_dflt (first | lia | omega)) ?_ (Or.inl (PyProof.noPylong_small (by k_dflt (first | lia | omega))))))
  k_with "subscriptTail Name Constant ref int" => (k_here; (with_reducible show wpAny _ _ (subscriptTail _ _ (Value.ref _) (Value.int _ _)) _ _ _); k_dflt (first | (kim_at) | (with_unfolding_all refine' itm_led ?z9N ?z9m ?z9a ?z9b ?z9x ?_ ?z9hs ?z9hg; (case z9N => k_asm); (case z9m => k_mem); (case z9a => decide); (case z9b => decide); (case z9x => first | assumption | rfl); (case z9hs => with_unfolding_all rfl); (case z9hg => intro _; with_unfolding_all rfl); k_whole) | (with_unfolding_all refine' tup_led ?z9N ?z9m ?z9a ?z9b ?z9j ?z9x ?_ ?z9hs ?z9hg; (case z9N => k_asm); (case z9m => k_mem); (case z9a => decide); (case z9b => decide); (case z9j => rfl); (case z9x => rfl); (case z9hs => with_unfolding_all rfl); (case z9hg => intro _; with_unfolding_all rfl); k_whole)))
  k_with "subscriptTail Name Name ref int" => (k_here; (with_reducible show wpAny _ _ (subscriptTail _ _ (Value.ref _) (Value.int _ _)) _ _ _); (with_unfolding_all refine' itm_led ?z9N ?z9m ?z9a ?z9b ?z9x ?_ ?z9hs ?z9hg; (case z9N => k_asm); (case z9m => k_mem); (case z9a => first | assumption | k_dflt (first | lia | omega)); (case z9b => k_dflt (first | lia | omega)); (case z9x => first | assumption | exact List.getElem?_set_self (by k_dflt (first | lia | omega))); (case z9hs => with_unfolding_all rfl); (case z9hg => intro _; with_unfolding_all rfl); k_whole))
  k_with "subscriptTail Name Subscript ref int" => (k_here; (with_reducible show wpAny _ _ (subscriptTail _ _ (Value.ref _) (Value.int _ _)) _ _ _); (with_unfolding_all refine' itm_led ?z9N ?z9m ?z9a ?z9b ?z9x ?_ ?z9hs ?z9hg; (case z9N => k_asm); (case z9m => k_mem); (case z9a => first | assumption | k_dflt (first | lia | omega)); (case z9b => k_dflt (first | lia | omega)); (case z9x => first | assumption | exact List.getElem?_set_self (by k_dflt (first | lia | omega))); (case z9hs => with_unfolding_all rfl); (case z9hg => intro _; with_unfolding_all rfl); k_whole))
  k_with "subscriptTail Attribute" => (k_here; k_dflt (refine kba_turn (value' := PySem.Expr.Name (PySem.Str.ofString "_") ⟨0, 0, 0, 0⟩) (fun _ => rfl) ?_))
  k_with "subscriptTail Subscript" => (k_here; k_dflt (refine kba_turn (value' := PySem.Expr.Name (PySem.Str.ofString "_") ⟨0, 0, 0, 0⟩) (fun _ => rfl) ?_))
  k_with "subscriptTail Call" => (k_here; k_dflt (refine kba_turn (value' := PySem.Expr.Name (PySem.Str.ofString "_") ⟨0, 0, 0, 0⟩) (fun _ => rfl) ?_))
  k_with "call builtin:len" => (k_here; (with_reducible show wpAny _ _ (call (Value.builtin "len") [Value.ref _]) _ _ _); k_dflt (refine' len_led ?z9k1 ?z9k2 ?z9k3 ?_; (case z9k1 => k_asm); (case z9k2 => k_mem); (case z9k3 => first | assumption | k_dflt (first | lia | omega) | (simp only [List.length_cons, List.length_nil]; k_dflt (first | lia | omega))); k_whole))
  k_with "compareOp Eq ref ref" => (k_here; (with_reducible show wpAny _ _ (compareOp CmpOp.Eq (Value.ref _) (Value.ref _)) _ _ _); k_dflt (refine' eq_nil_led ?z9k1 ?z9k2 ?z9k3 ?z9k4 ?_; (case z9k1 => k_asm); (case z9k2 => k_mem); (case z9k3 => k_mem); (case z9k4 => ktr_units); k_whole))
  k_with "compareOp NotEq ref ref" => (k_here; (with_reducible show wpAny _ _ (compareOp CmpOp.NotEq (Value.ref _) (Value.ref _)) _ _ _); k_dflt (refine' ne_nil_led ?z9k1 ?z9k2 ?z9k3 ?z9k4 ?_; (case z9k1 => k_asm); (case z9k2 => k_mem); (case z9k3 => k_mem); (case z9k4 => ktr_units); k_whole))
  k_with "call builtin:list.pop" => (k_here; (with_reducible show wpAny _ _ (call (Value.builtin _) [Value.ref _, Value.int _ _]) _ _ _); k_dflt (refine' pop0_led ?z9F ?z9N ?z9U ?z9z ?_; (case z9F => k_asm); (case z9N => k_asm); (case z9U => k_upd); (case z9z => first | assumption | k_dflt (first | lia | omega)); k_whole); cell_end 21 0 0; (try k_sweep))
  k_with "call builtin:sum" => (k_here; (with_reducible show wpAny _ _ (call (Value.builtin "sum") [Value.ref _]) _ _ _); k_dflt (refine' sum_led ?z9k0 ?z9k1 ?z9k2 ?z9k3 ?z9k4 ?_; (case z9k0 => with_unfolding_all rfl); (case z9k1 => k_asm); (case z9k2 => k_asm); (case z9k3 => k_mem); (case z9k4 => assumption); k_whole); cell_end 22 0 0; (try k_sweep))
  k_with "eval ListComp" => (k_here; (with_reducible show wpAny _ _ (eval (Expr.ListComp _ [Comprehension.mk _ _ [] _] _ _) _) _ _ _); k_dflt (refine LCg.ListComp_U (F₀ := by k_asm) (by with_unfolding_all rfl) (by decide) (by rfl) (by decide) (by rfl) ?_))
  k_with "eval ListComp" => (k_here; (with_reducible show wpAny _ _ (eval (Expr.ListComp _ [Comprehension.mk _ _ [_] _] _ _) _) _ _ _); k_dflt (refine LCt.ListComp_T (F₀ := by k_asm) (by with_unfolding_all rfl) (by decide) (by rfl) (by decide) (by rfl) ?_))
  k_with "CompSrc" => (k_here; k_dflt (refine' LCg.CompSrc.ledger ?z9kh ?z9kF ?z9kN ?z9km ?_ ?_; (case z9kh => rfl); (case z9kF => k_asm); (case z9kN => k_asm); (case z9km => k_mem); rotate_left; cell_end 24 0 0; (try dsimp only); k_extra "rest"))
  k_with "call builtin:max" => (k_here; (with_reducible show wpAny _ _ (call (Value.builtin "max") [Value.int _ _, Value.int _ _]) _ _ _); k_dflt (refine' max2_led ?z9k0 ?z9k1 ?z9k2 ?_; (case z9k0 => with_unfolding_all rfl); (case z9k1 => k_asm); (case z9k2 => k_asm); k_whole); cell_end 22 0 0; (try k_sweep))
  k_with "call builtin:min" => (k_here; (with_reducible show wpAny _ _ (call (Value.builtin "min") [Value.int _ _, Value.int _ _]) _ _ _); k_dflt (refine' min2_led ?z9k0 ?z9k1 ?z9k2 ?_; (case z9k0 => with_unfolding_all rfl); (case z9k1 => k_asm); (case z9k2 => k_asm); k_whole); cell_end 22 0 0; (try k_sweep))
  k_with "binaryOp Mult ref int" => (k_here; (with_reducible show wpAny _ _ (binaryOp Operator.Mult (Value.ref _) (Value.int _ _)) _ _ _); k_dflt (refine' mulrep_led ?z9k1 ?z9k2 ?z9k3 ?z9k4 ?z9k5 ?_; (case z9k1 => k_asm); (case z9k2 => k_asm); (case z9k3 => k_mem); (case z9k4 => k_dflt (first | lia | omega)); (case z9k5 => k_dflt (first | lia | omega)); k_whole); cell_end 23 0 0; (try k_sweep))
  k_with "setItem ref int" => (k_here; k_dflt (refine' set_led ?z9k1 ?z9k2 ?z9k3 ?z9k4 ?z9k5 ?z9k6 ?_; (case z9k1 => k_asm); (case z9k2 => k_asm); (case z9k3 => k_upd); (case z9k4 => first | assumption | k_dflt (first | lia | omega)); (case z9k5 => first | assumption | k_dflt (first | lia | omega)); (case z9k6 => k_dflt (first | lia | omega)); k_whole); cell_end 21 0 0; (try k_sweep))
  k_with "newList" => (k_here; k_dflt (refine' newList_K ?z9k1 ?z9k2 ?_; (case z9k1 => k_asm); (case z9k2 => k_asm); k_whole); cell_end 23 0 0; (try k_sweep))
  k_with "newTuple" => (k_here; k_dflt (refine' kup_newTuple ?z9k1 ?z9k2 ?_ ?z9kz; (case z9k1 => k_asm); (case z9k2 => k_asm); (case z9kz => exact Nat.le_of_ble_eq_true rfl); k_whole); cell_end 23 0 0; (try k_sweep))
  k_with "call builtin:list.append" => (k_here; (with_reducible show wpAny _ _ (call (Value.builtin _) [Value.ref _, _]) _ _ _); k_dflt (refine' append_led ?z9k1 ?z9k2 ?z9k3 ?z9k4 ?_; (case z9k1 => k_asm); (case z9k2 => k_asm); (case z9k3 => k_upd); (case z9k4 => first | assumption | k_dflt (first | lia | omega)); k_whole); cell_end 21 0 0; (try k_sweep))
  k_with "exec Assign cons ListComp" => (k_here; (with_reducible show wpAny _ _ (exec (Stmt.Assign [_] (Expr.ListComp _ [Comprehension.mk _ _ [_] _] _ _) _) _) _ _ _); k_dflt (refine LCt.Assign_ListComp_T (F₀ := by k_asm) (by rfl) (by with_unfolding_all rfl) (by with_unfolding_all rfl) (by decide) (by rfl) (by decide) (by rfl) (by rfl) (by rfl) ?_))
  k_with "exec Assign cons ListComp" => (k_here; (with_reducible show wpAny _ _ (exec (Stmt.Assign [_] (Expr.ListComp _ [Comprehension.mk _ _ [] _] _ _) _) _) _ _ _); k_dflt (refine LCg.Assign_ListComp_U (F₀ := by k_asm) (by rfl) (by with_unfolding_all rfl) (by with_unfolding_all rfl) (by decide) (by rfl) (by decide) (by rfl) (by rfl) (by rfl) ?_))
  k_with "CompSrcT" => (k_here; k_dflt (refine LCt.CompSrcT.range (by rfl) (by k_asm) (by k_asm) (by assumption) (small_one (by k_dflt (first | lia | omega)) (by k_dflt (first | lia | omega)) (by k_dflt (first | lia | omega)) (by k_dflt (first | lia | omega))) (rangeSize_nat _ _) ?_ ?_; rotate_left; cell_end 24 0 0; (try dsimp only); k_extra "restT"))
  k_with "binaryOp Add ref ref" => (k_here; (with_reducible show wpAny _ _ (binaryOp _ (Value.ref _) (Value.ref _)) _ _ _); k_dflt (refine' addT_led ?z9k1 ?z9k2 ?z9k3 ?z9k4 ?z9k5 ?z9k6 ?z9k7 ?z9k8 ?_; (case z9k1 => k_asm); (case z9k2 => k_asm); (case z9k3 => k_mem); (case z9k4 => k_mem); (case z9k5 => exact rfl); (case z9k6 => exact List.cons_ne_nil _ _); (case z9k7 => exact List.cons_ne_nil _ _); (case z9k8 => exact Nat.le_of_ble_eq_true rfl); k_whole); cell_end 23 0 0; (try k_sweep))
  k_with "call builtin:min" => (k_here; (with_reducible show wpAny _ _ (call (Value.builtin "min") [Value.ref _]) _ _ _); k_dflt (k_extra "min"))
  k_with "CompSrcT" => (k_here; k_dflt (refine' LCt.CompSrcT.ledger ?z9kh ?z9kF ?z9kN ?z9km ?_ ?_; (case z9kh => rfl); (case z9kF => k_asm); (case z9kN => k_asm); (case z9km => k_mem); rotate_left; cell_end 24 0 0; (try dsimp only); k_extra "restT"))
  k_with "subscriptTail Name Constant ref str" => (k_here; (with_reducible show wpAny _ _ (subscriptTail _ _ (Value.ref _) (Value.str _ _)) _ _ _); k_dflt (refine' kda_item (knd := PySem.strKind _ _) ?z9N ?z9hp ?z9hd (strKind_is _ _ _ _) ?z9hl ?_ ?z9hs ?z9hg; (case z9N => k_asm); (case z9hp => k_mem); (case z9hd => assumption); (case z9hl => rfl); (case z9hs => with_unfolding_all rfl); (case z9hg => intro _; with_unfolding_all rfl)); k_whole)
  k_with "setItem ref str" => (k_here; k_dflt (refine' kda_set (knd := PySem.strKind _ _) ?z9F ?z9N ?z9U ?z9d (strKind_is _ _ _ _) ?z9z ?_; (case z9F => k_asm); (case z9N => k_asm); (case z9U => k_updF); (case z9d => assumption); (case z9z => rw [sizeLine_eq]; exact Nat.le_of_ble_eq_true (by with_unfolding_all rfl))); cell_end 25 0 0)
  k_with "exec For Tuple Call" => (k_here; k_dflt (refine' For_turns ?z9lF ?_; (case z9lF => k_asm); k_whole))
  k_with "call type:enumerate" => (k_here; k_dflt (refine' ktu_enum ?z9hh ?z9F ?z9N ?z9hm ?z9hc ?z9hd ?z9hx ?_; (case z9hh => rfl); (case z9F => k_asm); (case z9N => k_asm); (case z9hm => k_mem); (case z9hc => rfl); (case z9hd => rfl); (case z9hx => rfl); k_extra "items"))
  k_with "compareOp NotEq ref ref" => (k_here; (with_reducible show wpAny _ _ (compareOp CmpOp.NotEq (Value.ref _) (Value.ref _)) _ _ _); k_dflt (first | (refine' ne_nil_led ?z9k1 ?z9k2 ?z9k3 ?z9k4 ?_; (case z9k1 => k_asm); (case z9k2 => k_mem); (case z9k3 => k_mem); (case z9k4 => ktr_units)) | (refine' ne_tup2 ?z9k1 ?z9k2 ?z9k3 ?z9k4 ?_; (case z9k1 => k_asm); (case z9k2 => k_mem); (case z9k3 => k_mem); (case z9k4 => ktr_units)) | (refine' ne_tup3 ?z9k1 ?z9k2 ?z9k3 ?z9k4 ?_; (case z9k1 => k_asm); (case z9k2 => k_mem); (case z9k3 => k_mem); (case z9k4 => ktr_units))); k_whole)
  k_with "exec For Name Name cons nil" => (k_here; k_dflt (refine' For_turns ?z9lF ?_; (case z9lF => k_asm); k_whole))
  k_with "exec For Name Call cons nil" => (k_here; k_dflt (refine' For_turns ?z9lF ?_; (case z9lF => k_asm); k_whole))
  k_with "pyIter ref" => (k_here; (with_reducible show wpAny _ _ (pyIter (Value.ref _)) (fun it s₂ => TurnsAt _ _ _ _ _ _ _ _ _ it s₂) _ _); k_dflt (first | (refine' iter_rangeTurns ?z9hh ?z9hr ?z9hs ?z9hn ?z9F ?z9N ?_; (case z9hh => rfl); (case z9hr => assumption); (case z9hs => first | decide | exact small_one (by k_dflt (first | lia | omega)) (by k_dflt (first | lia | omega)) (by k_dflt (first | lia | omega)) (by k_dflt (first | lia | omega))); (case z9hn => exact rangeSize_nat _ _); (case z9F => k_asm); (case z9N => k_asm); k_extra "items") | (refine' iter_listTurns ?z9hh ?z9F ?z9N ?z9hm ?z9hc ?z9hd ?_; (case z9hh => rfl); (case z9F => k_asm); (case z9N => k_asm); (case z9hm => k_mem); (case z9hc => rfl); (case z9hd => rfl); k_extra "items")))
  k_with "exec While Compare cons nil" => (k_here; k_dflt (k_extra "while"))
  k_with "exec While Constant cons nil" => (k_here; k_dflt (k_extra "while"))
  k_with "UnrEndW" => refine hold ?_
  k_with "eval ListComp" => (k_here; (with_reducible show wpAny _ _ (eval (Expr.ListComp _ [Comprehension.mk (Expr.Tuple _ _ _) _ [] _] _ _) _) _ _ _); k_dflt (refine LCp.ListComp_P (F₀ := by k_asm) (by with_unfolding_all rfl) (by decide) (by rfl) (by decide) (by rfl) (by rfl) (by decide) ?_))
  k_with "SrcLP" => (k_here; k_dflt (refine' LCp.SrcLP.ledger ?z9kh ?z9kF ?z9kN ?z9km ?_ ?_; (case z9kh => rfl); (case z9kF => k_asm); (case z9kN => k_asm); (case z9km => k_mem); rotate_left; cell_end 24 0 0; (try dsimp only); k_extra "restP"))
  k_with "exec Raise some none" => (k_here; k_dflt (k_extra "raise"))
  k_with "CompSrc" => (k_here; k_dflt (refine LCg.CompSrc.range (by rfl) (by k_asm) (by k_asm) (by assumption) (small_one (by k_dflt (first | lia | omega)) (by k_dflt (first | lia | omega)) (by k_dflt (first | lia | omega)) (by k_dflt (first | lia | omega))) (rangeSize_nat _ _) ?_ ?_; rotate_left; cell_end 24 0 0; (try dsimp only); k_extra "rest"))
  k_with "subscriptTail List Call ref int" => (k_here; k_dflt (k_extra "menu"))
  k_with "exec For Tuple Subscript cons nil" => (k_here; k_dflt (refine' For_turns ?z9lF ?_; (case z9lF => k_asm); k_whole))
  k_with "subscriptTail Name Slice ref ref" => (k_here; (with_reducible show wpAny _ _ (subscriptTail _ (PySem.Expr.Slice (some _) none none _) (Value.ref _) (Value.ref _)) _ _ _); k_dflt (refine' slice_led ?z9F ?z9N ?z9l ?z9x ?z9z ?_ ?z9s ?z9t; (case z9F => k_asm); (case z9N => k_asm); (case z9l => k_mem); (case z9x => k_dflt (first | lia | omega)); (case z9z => first | assumption | k_dflt (first | lia | omega)); (case z9s => with_unfolding_all rfl); (case z9t => kmk_pure)); cell_end 23 0 0; (try k_sweep))
  k_with "k_mem" => (first | exact List.Mem.head _ | (refine' List.Mem.tail _ ?_; k_mem) | assumption)
  k_with "ask2" => ((case kA => exact rfl); (case kF => exact rfl); (case kK => assumption); (case k1 => k_asm); (case k2 => k_asm); (case k3 => k_asm); (case k4 => k_asm); (case k5 => k_asm); (case k6 => k_is); (case k7 => k_is); (case k8 => ktr_room); (case k9 => first | exact BindsTo.of_eq rfl | exact binds_K (by k_in) rfl (by k_is) rfl rfl rfl); (case c5 => decide); (case kB => exact locs rfl); (case c2 => exact rfl); (case c3 => exact rfl); (case c4 => exact rfl); k_whole)
  k_with "askC2" => ((case kA => exact rfl); (case kF => exact rfl); (case kK => assumption); (case k1 => k_asm); (case k2 => k_asm); (case k3 => k_asm); (case k4 => k_asm); (case k5 => k_asm); (case k6 => k_is); (case k7 => k_is); (case k8 => ktr_room); (case k9 => first | exact BindsTo.of_eq rfl | exact binds_K (by k_in) rfl (by k_is) rfl rfl rfl); (case kB => exact rfl); (case kD => decide +kernel); (case c2 => exact rfl); (case c3 => exact rfl); (case c4 => exact rfl); k_whole)
  k_with "cell_call" => ((case k1 => k_asm); (case k2 => k_asm); (case k3 => k_asm); (case k4 => k_asm); (case k5 => k_asm); (case kK => first | exact rfl | assumption); (case kd => ktr_room); (case ku => ktr_units))
  k_with "k_all" => (first | exact List.forall_mem_nil _ | (refine List.forall_mem_cons.mpr ⟨?_, ?_⟩; (focus k_ne); k_all) | exact OwnOff.ne (by with_reducible assumption) (by k_memK) | exact fresh_ne (by with_reducible assumption) (by intro p hp; k_mem))
  k_with "k_ne" => (first | ((try dsimp only); first | (refine' NeA.ne ?z5h; (case z5h => with_reducible assumption)) | (refine' NeA.en ?z5h; (case z5h => with_reducible assumption)) | (refine' fresh1 ?z5h ?z5m; (case z5h => with_reducible assumption); (case z5m => k_mem)) | (refine' fresh2 ?z5h ?z5m; (case z5h => with_reducible assumption); (case z5m => k_mem))) | (refine neN ?_; (try dsimp only); k_dflt (first | lia | omega)))
  k_with "lcg_sub" => (first | exact List.forall_mem_nil _ | (refine List.forall_mem_cons.mpr ⟨?_, ?_⟩; (focus k_mem); lcg_sub) | (intro p hp; k_mem))
  k_with "ke_reads" => (first | exact List.forall_mem_nil _ | (refine List.forall_mem_cons.mpr ⟨?_, ?_⟩; (focus k_all); ke_reads))
  k_with "cell_step" => (cell_call; (case kp => lcg_src); (case ko => ke_reads))
  k_with "k_in" => (first | k_in_fast | with_reducible assumption | (with_reducible (refine' in_fr ?z4F ?z4X; (case z4F => assumption); (case z4X => assumption))))
  k_with "ends" => ((case F1 => k_asm); (case N1 => k_asm); (case s1 => first | exact fun _ hp => hp | exact fun _ hp => List.Mem.tail _ hp | exact fun _ hp => List.Mem.tail _ (List.Mem.tail _ hp) | lcg_sub))
  k_with "ne" => (first | infer_instance | exact neWorld | exact neShared | exact neAround | exact neParams | exact neItm | exact ⟨default⟩)
  k_with "ep" => (refine @all_epA _ (by k_extra "ne") _ ?_)
  k_with "epq" => (clear zq)
  k_with "epx" => (have zk := @epE_spec _ (by k_extra "ne") _ zh; clear zh)
  k_with "epe" => (replace zk := exE zk)
  k_with "epa" => (have zj := And.left zh; have zk := And.right zh; clear zh)
  k_with "epj" => (clear zj)
  k_with "epk" => (clear zk)
  k_with "cx" => (refine @all_epA _ neCx _ ?_; generalize epA _ _ = zc; refine exI ?_; generalize Cx.p zc = p, Cx.loose zc = loose, Cx.mean zc = mean, Cx.mg zc = mg, Cx.mb zc = mb, Cx.dp zc = dp, Cx.un zc = un, Cx.gd zc = gd, Cx.cn zc = cn, Cx.cs zc = cs, Cx.a zc = a, Cx.ccd zc = ccd, Cx.cl zc = cl, Cx.outer zc = outer, Cx.A₀ zc = A₀, Cx.base zc = base, Cx.h₀ zc = h₀, Cx.L zc = L, Cx.m zc = m, Cx.s zc = s, Cx.Q zc = Q, Cx.E zc = E; clear zc)
  k_with "cxa" => (refine @all_epA _ neCx _ ?_; generalize epA _ _ = zc; refine exI ?_; generalize Cx.p zc = p, Cx.loose zc = loose, Cx.mean zc = mean, Cx.mg zc = mg, Cx.mb zc = mb, Cx.dp zc = dp, Cx.un zc = un, Cx.gd zc = gd, Cx.cn zc = cn, Cx.cs zc = cs, Cx.a zc = ac, Cx.ccd zc = ccd, Cx.cl zc = cl, Cx.outer zc = outer, Cx.A₀ zc = A₀, Cx.base zc = base, Cx.h₀ zc = h₀, Cx.L zc = L, Cx.m zc = m, Cx.s zc = s, Cx.Q zc = Q, Cx.E zc = E; clear zc)
  k_with "i2" => (refine all_2 ?_ ?_; (focus (repeat' (first | exact neWorld | exact neShared | exact neAround | exact neParams | exact neItm | refine nePr ?_ ?_ | infer_instance | exact ⟨default⟩))); generalize ep2 _ _ = zq; refine ex2 ?_)
  k_with "i3" => (refine all_3 ?_ ?_; (focus (repeat' (first | exact neWorld | exact neShared | exact neAround | exact neParams | exact neItm | refine nePr ?_ ?_ | infer_instance | exact ⟨default⟩))); generalize ep3 _ _ = zq; refine ex3 ?_)
  k_with "i4" => (refine all_4 ?_ ?_; (focus (repeat' (first | exact neWorld | exact neShared | exact neAround | exact neParams | exact neItm | refine nePr ?_ ?_ | infer_instance | exact ⟨default⟩))); generalize ep4 _ _ = zq; refine ex4 ?_)
  k_with "i5" => (refine all_5 ?_ ?_; (focus (repeat' (first | exact neWorld | exact neShared | exact neAround | exact neParams | exact neItm | refine nePr ?_ ?_ | infer_instance | exact ⟨default⟩))); generalize ep5 _ _ = zq; refine ex5 ?_)
  k_with "i6" => (refine all_6 ?_ ?_; (focus (repeat' (first | exact neWorld | exact neShared | exact neAround | exact neParams | exact neItm | refine nePr ?_ ?_ | infer_instance | exact ⟨default⟩))); generalize ep6 _ _ = zq; refine ex6 ?_)
  k_with "i7" => (refine all_7 ?_ ?_; (focus (repeat' (first | exact neWorld | exact neShared | exact neAround | exact neParams | exact neItm | refine nePr ?_ ?_ | infer_instance | exact ⟨default⟩))); generalize ep7 _ _ = zq; refine ex7 ?_)
  k_with "i8" => (refine all_8 ?_ ?_; (focus (repeat' (first | exact neWorld | exact neShared | exact neAround | exact neParams | exact neItm | refine nePr ?_ ?_ | infer_instance | exact ⟨default⟩))); generalize ep8 _ _ = zq; refine ex8 ?_)
  k_with "eph" => (clear zh)
  k_with "sub" => (first | exact sub_nil | (refine sub_cons ?_ ?_; (focus (k_extra "mem")); k_extra "sub") | (refine sub_app ?_ ?_; (focus (k_extra "sub")); k_extra "sub") | k_extra "incl")
  k_with "mem" => (with_reducible (first | exact List.mem_cons_self .. | (refine List.mem_cons_of_mem _ ?_; k_extra "mem") | (refine List.mem_append_left _ ?_; k_extra "mem") | (refine List.mem_append_right _ ?_; k_extra "mem") | assumption))
  k_with "incl" => (with_reducible (first | exact fun _ h => h | (refine sub_tail ?_; k_extra "incl") | (refine sub_left ?_; k_extra "incl") | (refine sub_right ?_; k_extra "incl")))
  k_with "room" => ((try dsimp only [depth_under_make, depth_under_kw, depth_in1, depth_deeper, depth_caller, ktrTop]); first | exact room_lt0 (by assumption) | exact room_lt (by assumption) (by decide) | exact room_lt2 (by assumption) (by decide) | exact room_lt3 (by assumption) (by decide))
  k_with "units" => ((try dsimp only [units_in1, units_deeper, Around.mark_units, units_caller, ktrTop]); first | exact room_lt0 (by assumption) | exact room_lt (by assumption) (by decide) | exact room_lt2 (by assumption) (by decide) | exact room_lt3 (by assumption) (by decide))
  trivial
-- Rnd
example : True := by
  w_top off
  trivial
section
theorem far_not {P q0 q1 M E W : Int} (hle : q0 ≤ M ∧ q1 ≤ M) (hb : W ≤ P + 8 * max q0 q1 ∧ -(P + 8 * max q0 q1) ≤ W) (hE : E = -W) : ¬ (P + 8 * M < -E) ∧ ¬ (P + 8 * M < E) := by
  have h : max q0 q1 ≤ M := Int.max_le.mpr hle
  generalize max q0 q1 = m at h hb
  constructor <;> intro h2 <;> (first | lia | omega)
theorem dr_obj {q : Nat} {S : DrS} {W : Led} (h : DrAt q S W) : ∃ (qd qa ra la : Nat) (T : DrT) (ta : Nat), (q, instObj 165 qd) ∈ W ∧ (qd, drD T qa ra la (bi S.at_) ta S.bg) ∈ W := by
  obtain ⟨I, P, rfl, h⟩ := h
  exact ⟨I.qd, I.qa, I.ra, I.la, I.T, I.ta, List.mem_append_right _ h.p1, .head _⟩
theorem sizes_le {l : List It} (h : ∀ it ∈ l, 1 ≤ it.size ∧ it.size ≤ 9) : (l.map It.size).sum ≤ 9 * (l.length : Int) := by
  induction l with
  | nil => simp
  | cons a l ih =>
    have h1 := h a (.head _)
    have h2 := ih fun it hit => h it (.tail _ hit)
    simp only [List.map_cons, List.sum_cons, List.length_cons]
    (first | lia | omega)
theorem V_bound {S : DrS} (h : DrB S) (hb : S.bg = true) : S.V ≤ S.q0 * S.q1 + 8 * max S.q0 S.q1 ∧ -(S.q0 * S.q1 + 8 * max S.q0 S.q1) ≤ S.V := by
  obtain ⟨⟨a1, a2⟩, ⟨a3, a4⟩, ⟨b1, b2⟩, ⟨b3, b4⟩, _, _⟩ := h
  have m1 : S.q0 ≤ max S.q0 S.q1 := Int.le_max_left _ _
  have m2 : S.q1 ≤ max S.q0 S.q1 := Int.le_max_right _ _
  have e1 : 0 ≤ S.l0 * S.q1 := Int.mul_nonneg b1 (by (first | lia | omega))
  have e2 : 0 ≤ S.l1 * S.q0 := Int.mul_nonneg b3 (by (first | lia | omega))
  have e3 : 0 ≤ S.q0 * S.q1 := Int.mul_nonneg (by (first | lia | omega)) (by (first | lia | omega))
  cases ha : S.at_ with
  | false =>
    simp [ha, hb] at b2 b4
    have e4 : S.l0 * S.q1 ≤ (8 + S.q0) * S.q1 := Int.mul_le_mul_of_nonneg_right b2 (by (first | lia | omega))
    have e5 : S.l1 * S.q0 ≤ 8 * S.q0 := Int.mul_le_mul_of_nonneg_right b4 (by (first | lia | omega))
    rw [Int.add_mul] at e4
    simp [DrS.V, ha, hb]
    (first | lia | omega)
  | true =>
    simp [ha, hb] at b2 b4
    have e4 : S.l0 * S.q1 ≤ 8 * S.q1 := Int.mul_le_mul_of_nonneg_right b2 (by (first | lia | omega))
    have e5 : S.l1 * S.q0 ≤ (8 + S.q1) * S.q0 := Int.mul_le_mul_of_nonneg_right b4 (by (first | lia | omega))
    rw [Int.add_mul, Int.mul_comm S.q1 S.q0] at e5
    simp [DrS.V, ha, hb]
    (first | lia | omega)
theorem own4 {P : Led} {a b c d : Nat} {o1 o2 o3 o4 : Obj} (fr : ∀ p ∈ P, ∀ r ∈ ([(a, o1), (b, o2), (c, o3), (d, o4)] : Led), p.1 ≠ r.1) : OwnOff P [a, b, c, d] := fun p hp y hy => by
  simp only [List.mem_cons, List.not_mem_nil, or_false] at hy
  rcases hy with h | h | h | h <;> rw [h]
  · exact fr p hp (a, o1) (by simp)
  · exact fr p hp (b, o2) (by simp)
  · exact fr p hp (c, o3) (by simp)
  · exact fr p hp (d, o4) (by simp)
theorem off4 {P : Led} {a b c d : Nat} {o1 o2 o3 o4 : Obj} (h : OwnOff P [a, b, c, d]) : ∀ p ∈ P, ∀ r ∈ ([(a, o1), (b, o2), (c, o3), (d, o4)] : Led), p.1 ≠ r.1 := fun p hp r hr => by
  simp only [List.mem_cons, List.not_mem_nil, or_false] at hr
  rcases hr with h | h | h | h <;> rw [h]
  · exact ‹OwnOff P [a, b, c, d]› p hp a (by simp)
  · exact ‹OwnOff P [a, b, c, d]› p hp b (by simp)
  · exact ‹OwnOff P [a, b, c, d]› p hp c (by simp)
  · exact ‹OwnOff P [a, b, c, d]› p hp d (by simp)
theorem swap4 {P : Led} {x1 x2 x3 x4 : Addr × Obj} : ∀ p ∈ (x1 :: x2 :: x3 :: x4 :: P : Led), p ∈ P ++ [x1, x2, x3, x4] := by k_extra "sub"
theorem swap4' {P : Led} {x1 x2 x3 x4 : Addr × Obj} : ∀ p ∈ P ++ [x1, x2, x3, x4], p ∈ (x1 :: x2 :: x3 :: x4 :: P : Led) := by k_extra "sub"
noncomputable def RInv1 (q ca A sl It : Nat) (q0 q1 : Int) (tA tB e1 : Nat) (osl : Obj) (i : Nat) (m : Str → Option Value) (news : Led) : Prop :=
  ∃ (W : Led) (o : Obj) (i0 i1 : List Mine.It), (∀ p ∈ ((ca, o) :: (A, listOf #[.int q0 tA, .int q1 tB] e1) :: (sl, osl) :: W : Led), p ∈ news) ∧ CellOk o ∧ DrAt q ⟨q0, q1, i0, i1, 0, 0, false, false⟩ W ∧ i0.length = i ∧ i1.length = i ∧
    (∀ it ∈ i0, 1 ≤ it.size ∧ it.size ≤ 9) ∧ (∀ it ∈ i1, 1 ≤ it.size ∧ it.size ≤ 9) ∧ OwnOff W [It, ca, A, sl] ∧ AllM m [(Str.ofString "cells", .ref ca), (Str.ofString "quanta", .ref A), (Str.ofString "queues", .ref q), (Str.ofString "sent", .ref sl)]
noncomputable def RInv2 (q ca A sl It : Nat) (q0 q1 : Int) (tA tB e1 : Nat) (i : Nat) (m : Str → Option Value) (news : Led) : Prop :=
  ∃ (W : Led) (o : Obj) (S : DrS) (s0 s1 : Int) (u0 u1 e : Nat), (∀ p ∈ ((ca, o) :: (A, listOf #[.int q0 tA, .int q1 tB] e1) :: (sl, listOf #[.int s0 u0, .int s1 u1] e) :: W : Led), p ∈ news) ∧ CellOk o ∧ DrAt q S W ∧ DrB S ∧ S.q0 = q0 ∧ S.q1 = q1 ∧
    (12 ≤ S.i0.length + i ∧ S.i0.length ≤ 12) ∧ (12 ≤ S.i1.length + i ∧ S.i1.length ≤ 12) ∧ s0 * q1 - s1 * q0 + S.V = 0 ∧ OwnOff W [It, ca, A, sl] ∧
    AllM m [(Str.ofString "cells", .ref ca), (Str.ofString "quanta", .ref A), (Str.ofString "queues", .ref q), (Str.ofString "sent", .ref sl)]
theorem two_of {α : Type} {l : List α} (h : 2 ≤ l.length) : ∃ a b r, l = a :: b :: r := by
  match l, h with
  | a :: b :: r, _ => exact ⟨a, b, r, rfl⟩
section
open EpsOn
theorem rounds_con (w : World) (ca : Nat) (o : Obj) (ho : CellOk o) : Con w 383 [.ref ca] 20 1500 [(ca, o)] (Cellp ca) := by
  revert w ca o ho
  intro w ca o ho
  refine con_cx ?_
  k_extra "cx"
  intro B F X N T hk hd hu hret
  refine wpAny_call ?_
  k_dflt (cell_ask [(Str.ofString "cells", .ref ca)])
  rename_i g1 L1 h1 FG1 F1 N1 B1 X1 T1 hin1 l11
  k_with "con" => (refine hold ?_)
  k_with "items" => (refine hold ?_)
  k_steps
  unfold Hold
  refine' con_upd (drawC w ca o 12 _ ho (by decide) (by decide)) ?k1 ?k2 ?k3 ?k4 ?k5 ?kK ?kp ?ko ?kd ?ku ?_
  cell_step
  rintro r' post h' tkA ⟨d1, td1, o1, rfl, hd1, hd1', rfl, ho1⟩ F' N' fr'
  clear fr'
  (try simp only [List.cons_append, List.nil_append] at N')
  k_steps
  unfold Hold
  refine' con_upd (drawC w ca o1 12 _ ho1 (by decide) (by decide)) ?k1 ?k2 ?k3 ?k4 ?k5 ?kK ?kp ?ko ?kd ?ku ?_
  cell_step
  rintro r' post h' tkB ⟨d2, td2, o2, rfl, hd2, hd2', rfl, ho2⟩ F' N' fr'
  clear fr'
  (try simp only [List.cons_append, List.nil_append] at N')
  k_steps
  unfold Hold
  rename_i A hA1 lA hA2 B_ hB1 lB C_ hC1 lC D_ hD1 FF NN lD
  refine' con_all NN (drNew w A D_ B_ C_ 0 0 (1 + d1) (1 + d2) _ _ _ _ _ _ _ (by (first | lia | omega)) (by (first | lia | omega)) ?z1 ?z2 ?z3 ?z4) ?k1 ?k2 ?k3 ?k4 ?k5 ?kK ?kd ?ku ?_
  cell_call
  (case z1 => k_mem)
  (case z2 => k_mem)
  (case z3 => k_mem)
  (case z4 => k_mem)
  rintro r' post h' tk3 ⟨q, W, rfl, rfl, hW, hoffW⟩ F3 N3
  have gA : ∀ p ∈ W, p.1 ≠ A := fun p hp => hoffW p hp (A, _) (by k_mem)
  have gca : ∀ p ∈ W, p.1 ≠ ca := fun p hp => hoffW p hp (ca, _) (by k_mem)
  have ncA : NeA ca A := Nat.ne_of_lt (lA (ca, _) (.head _))
  generalize hq0 : 1 + d1 = q0 at *
  generalize hq1 : 1 + d2 = q1 at *
  replace N3 := kst_newsOf (l' := (ca, o2) :: (A, listOf #[.int q0 tkA, .int q1 tkB] 0) :: W) N3 (by
    k_extra "sub")
  clear hoffW NN
  k_steps
  unfold Hold
  rename_i sl hs1 lsl tl hs2 ltl y1 y2 y3 y4 y5 y6 y7 y8 y9 y10 y11 y12 y13 y14
  intro It hIf
  have nsca : NeA ca sl := Nat.ne_of_lt (lsl (ca, _) (.head _))
  have nsA : NeA A sl := Nat.ne_of_lt (lsl (A, _) (.tail _ (.head _)))
  have nIca : NeA ca It := Nat.ne_of_lt (hIf (ca, o2) (by k_mem))
  have nIA : NeA A It := Nat.ne_of_lt (hIf (A, listOf #[.int q0 tkA, .int q1 tkB] 0) (by k_mem))
  have nIsl : NeA sl It := Nat.ne_of_lt (hIf (sl, listOf #[.int 0 tk3, .int 0 (tk3 + 1)] 0) (by k_mem))
  have own0 : OwnOff W [It, ca, A, sl] := fun p hp y hy => by
    simp only [List.mem_cons, List.not_mem_nil, or_false] at hy
    rcases hy with h | h | h | h <;> rw [h]
    · exact Nat.ne_of_lt (hIf p (by k_mem))
    · exact gca p hp
    · exact gA p hp
    · exact Nat.ne_of_lt (lsl p (by k_mem))
  clear gA gca
  refine turns_ind (RInv1 q ca A sl It q0 q1 tkA tkB 0 (listOf #[.int 0 tk3, .int 0 (tk3 + 1)] 0)) ?turn ?fin _ 0 _ _ (Nat.zero_add _) ⟨W, o2, [], [], ?eqn, ho2, hW, rfl, rfl, fun _ h => (nomatch h), fun _ h => (nomatch h), own0, ⟨rfl, rfl, rfl, rfl, trivial⟩⟩
  case eqn => lcg_sub
  case turn =>
    intro i it v m news h tk hit hitv hInv F2 oI hI2 N2
    obtain ⟨hi, tv, rfl⟩ := range_item hit hitv
    obtain ⟨W, o, i0, i1, hnw, ho, hW, hl0, hl1, hz0, hz1, hOwn, hM⟩ := hInv
    replace F2 := fr_as hM F2
    dsimp only [kstB] at F2
    replace N2 := kst_newsOf (l' := (It, oI) :: (ca, o) :: (A, listOf #[.int q0 tkA, .int q1 tkB] 0) :: (sl, listOf #[.int 0 tk3, .int 0 (tk3 + 1)] 0) :: W) N2 (by
      intro p hp
      rcases List.mem_cons.mp hp with rfl | hp
      · exact List.mem_append_left _ (.head _)
      · exact List.mem_append_right _ (hnw p hp))
    clear hnw hit hitv
    obtain ⟨qd, xqa, xra, xla, xT, xta, hq1', hq2'⟩ := dr_obj hW
    k_steps
    unfold Hold
    refine' con_upd (drawC w ca o 9 _ ho (by decide) (by decide)) ?k1 ?k2 ?k3 ?k4 ?k5 ?kK ?kp ?ko ?kd ?ku ?_
    cell_step
    rintro r' post h' tk' ⟨da, ta, oa, rfl, ha1, ha2, rfl, hoa⟩ F' N' fr'
    clear fr'
    (try simp only [List.cons_append, List.nil_append] at N')
    have hs0 := sizes_le hz0
    have hs1 := sizes_le hz1
    k_steps
    unfold Hold
    refine' con_pre (W := W) (R := [(It, oI), (ca, oa), (A, listOf #[.int q0 tkA, .int q1 tkB] 0), (sl, listOf #[.int 0 tk3, .int 0 (tk3 + 1)] 0)]) (drPut0 w q _ W (1 + da) _ _ _ (show i0.length < 20 by (first | lia | omega)) (show (i0.map Mine.It.size).sum + (1 + da) ≤ 200 by (first | lia | omega)) hW) ?k1 ?k2 ?k3 ?k4 ?k5 ?kK ?kd ?ku ?kp (off4 hOwn) ?_
    cell_call
    case kp =>
      k_extra "sub"
    rintro r' W1 h' tk' ⟨rfl, hW1⟩ F' N' fr
    have hOwn1 := own4 fr
    replace N' := kst_newsOf N' swap4
    clear fr
    obtain ⟨qd2, xqa2, xra2, xla2, xT2, xta2, hq1'', hq2''⟩ := dr_obj hW1
    k_steps
    unfold Hold
    have hf := fm (a := 0 + (i : Int)) (b := 3) (by decide)
    refine' con_pre (W := W1) (R := [(It, oI), (ca, oa), (A, listOf #[.int q0 tkA, .int q1 tkB] 0), (sl, listOf #[.int 0 tk3, .int 0 (tk3 + 1)] 0)]) (drPut1 w q _ W1 (9 - (0 + (i : Int)).fmod 3) _ _ _ (show i1.length < 20 by (first | lia | omega)) (show (i1.map Mine.It.size).sum + (9 - (0 + (i : Int)).fmod 3) ≤ 200 by (first | lia | omega)) hW1) ?k1 ?k2 ?k3 ?k4 ?k5 ?kK ?kd ?ku ?kp (off4 hOwn1) ?_
    cell_call
    case kp =>
      k_extra "sub"
    rintro r' W2 h' tk' ⟨rfl, hW2⟩ F' N' fr
    have hOwn2 := own4 fr
    replace N' := kst_newsOf N' swap4
    clear fr
    k_steps
    cell_end 7 ((ca, oa) :: (A, listOf #[.int q0 tkA, .int q1 tkB] 0) :: (sl, listOf #[.int 0 tk3, .int 0 (tk3 + 1)] 0) :: W2) (fun p hp r hr => by
      rw [List.mem_singleton.mp hr]
      simp only [List.mem_cons] at hp
      rcases hp with h | h | h | h
      · rw [h]; exact nIca
      · rw [h]; exact nIA
      · rw [h]; exact nIsl
      · exact hOwn2 p h It (by simp))
    refine ⟨trivial, W2, oa, _, _, fun _ h => h, hoa, hW2, ?_, ?_, ?_, ?_, hOwn2, ⟨rfl, rfl, rfl, rfl, trivial⟩⟩
    · simp; (first | lia | omega)
    · simp; (first | lia | omega)
    · intro it hit
      rcases List.mem_append.mp hit with h | h
      · exact hz0 it h
      · rw [List.mem_singleton.mp h]; constructor <;> dsimp only <;> (first | lia | omega)
    · intro it hit
      rcases List.mem_append.mp hit with h | h
      · exact hz1 it h
      · rw [List.mem_singleton.mp h]; constructor <;> dsimp only <;> (first | lia | omega)
  case fin =>
    intro m news hInv h tk F2 N2
    obtain ⟨W, o, i0, i1, hnw, ho, hW, hl0, hl1, hz0, hz1, hOwn, hM⟩ := hInv
    replace F2 := fr_as hM F2
    dsimp only [kstB] at F2
    replace N2 := kst_newsOf (l' := (ca, o) :: (A, listOf #[.int q0 tkA, .int q1 tkB] 0) :: (sl, listOf #[.int 0 tk3, .int 0 (tk3 + 1)] 0) :: W) N2 hnw
    clear hnw
    obtain ⟨qd, xqa, xra, xla, xT, xta, hq1', hq2'⟩ := dr_obj hW
    k_steps
    unfold Hold
    intro It2 hIf2
    have mIca : NeA ca It2 := Nat.ne_of_lt (hIf2 (ca, o) (by k_mem))
    have mIA : NeA A It2 := Nat.ne_of_lt (hIf2 (A, listOf #[.int q0 tkA, .int q1 tkB] 0) (by k_mem))
    have mIsl : NeA sl It2 := Nat.ne_of_lt (hIf2 (sl, listOf #[.int 0 tk3, .int 0 (tk3 + 1)] 0) (by k_mem))
    have own2 : OwnOff W [It2, ca, A, sl] := fun p hp y hy => by
      simp only [List.mem_cons, List.not_mem_nil, or_false] at hy
      rcases hy with h | h | h | h <;> rw [h]
      · exact Nat.ne_of_lt (hIf2 p (by k_mem))
      · exact hOwn p hp ca (by simp)
      · exact hOwn p hp A (by simp)
      · exact hOwn p hp sl (by simp)
    have bq : 1 ≤ q0 ∧ q0 ≤ 12 ∧ 1 ≤ q1 ∧ q1 ≤ 12 := by (first | lia | omega)
    refine turns_ind (RInv2 q ca A sl It2 q0 q1 tkA tkB 0) ?turn2 ?fin2 _ 0 _ _ (Nat.zero_add _) ⟨W, o, _, 0, 0, tk3, tk3 + 1, 0, fun _ h => h, ho, hW, ⟨⟨bq.1, bq.2.1⟩, ⟨bq.2.2.1, bq.2.2.2⟩, by simp, by simp, hz0, hz1⟩, rfl, rfl, ?l0, ?l1, by simp [DrS.V], own2, ⟨rfl, rfl, rfl, rfl, trivial⟩⟩
    case l0 => 
      have : i0.length = 12 := hl0
      dsimp only; (first | lia | omega)
    case l1 =>
      have : i1.length = 12 := hl1
      dsimp only; (first | lia | omega)
    case turn2 =>
      clear hW ho hOwn own2 hl0 hl1 hz0 hz1 hM hIf2
      intro i it v m news h tk hit hitv hInv F2 oI hI2 N2
      obtain ⟨hi, tv, rfl⟩ := range_item hit hitv
      obtain ⟨W, o, S, s0, s1, u0, u1, e, hnw, hoT, hWt, hBt, hqa, hqb, hl0, hl1, hV, hOwn, hM⟩ := hInv
      subst hqa hqb
      replace F2 := fr_as hM F2
      dsimp only [kstB] at F2
      replace N2 := kst_newsOf (l' := (It2, oI) :: (ca, o) :: (A, listOf #[.int S.q0 tkA, .int S.q1 tkB] 0) :: (sl, listOf #[.int s0 u0, .int s1 u1] e) :: W) N2 (by
        intro p hp
        rcases List.mem_cons.mp hp with rfl | hp
        · exact List.mem_append_left _ (.head _)
        · exact List.mem_append_right _ (hnw p hp))
      clear hnw hit hitv
      obtain ⟨qd, xqa, xra, xla, xT, xta, hq1', hq2'⟩ := dr_obj hWt
      obtain ⟨a0, b0, r0, hi0⟩ := two_of (l := S.i0) (by (first | lia | omega))
      obtain ⟨a1, b1, r1, hi1⟩ := two_of (l := S.i1) (by (first | lia | omega))
      k_steps
      unfold Hold
      refine' con_pre (W := W) (R := [(It2, oI), (ca, o), (A, listOf #[.int S.q0 tkA, .int S.q1 tkB] 0), (sl, listOf #[.int s0 u0, .int s1 u1] e)]) (drTake w q S W a0 a1 b0 b1 r0 r1 hi0 hi1 (by (first | lia | omega)) (by (first | lia | omega)) hBt hWt) ?k1 ?k2 ?k3 ?k4 ?k5 ?kK ?kd ?ku ?kp (off4 hOwn) ?_
      cell_call
      case kp =>
        k_extra "sub"
      rintro r' post h' tk' ⟨l0, l1, b, y, tky, tsy, it, W1, rfl, rfl, hz1, hz2, hc⟩ F' N' fr
      have hOwn1 : OwnOff W1 [It2, ca, A, sl] := own4 fun p hp r hr => fr p (.tail _ hp) r hr
      have ysl : NeA y sl := fr (y, _) (.head _) (sl, listOf #[.int s0 u0, .int s1 u1] e) (by simp)
      replace N' := kst_newsOf (l' := (y, tupOf #[.int (bi b) tky, .int it.size tsy, it.th] 0) :: (It2, oI) :: (ca, o) :: (A, listOf #[.int S.q0 tkA, .int S.q1 tkB] 0) :: (sl, listOf #[.int s0 u0, .int s1 u1] e) :: W1) N' (by
        k_extra "sub")
      clear fr
      have x0 : ([.int s0 u0, .int s1 u1] : List Value)[Int.toNat 0]? = some (.int s0 u0) := rfl
      have x1 : ([.int s0 u0, .int s1 u1] : List Value)[Int.toNat 1]? = some (.int s1 u1) := rfl
      rcases hc with ⟨rfl, aa, ra, hia, rfl, hW1, hB1, hV1⟩ | ⟨rfl, aa, ra, hia, rfl, hW1, hB1, hV1⟩
      all_goals dsimp only [bi] at N' ⊢
      all_goals k_steps
      · exfalso
        rename (_ : Int) < _ => hx
        rename (_ : Int) ≤ _ ∧ (_ : Int) ≤ _ => hM2
        have vb := V_bound hB1 rfl
        rw [hV1] at vb
        dsimp only at vb
        rw [Int.add_mul] at hx
        split at hx
        · exact (far_not hM2 vb (by clear hx; (first | lia | omega))).1 hx
        · exact (far_not hM2 vb (by clear hx; (first | lia | omega))).2 hx
      · cell_end 7 ((ca, o) :: (A, listOf #[.int S.q0 tkA, .int S.q1 tkB] 0) :: (sl, listOf #[.int (s0 + it.size) _, .int s1 u1] e) :: W1) (fun p hp r hr => by
          rw [List.mem_singleton.mp hr]
          simp only [List.mem_cons] at hp
          rcases hp with h | h | h | h
          · rw [h]; exact mIca
          · rw [h]; exact mIA
          · rw [h]; exact mIsl
          · exact hOwn1 p h It2 (by simp))
        rw [hia] at hl0
        simp only [List.length_cons] at hl0
        refine ⟨trivial, W1, o, _, s0 + it.size, s1, _, u1, e, fun _ h => h, hoT, hW1, hB1, rfl, rfl, ?_, ?_, ?_, hOwn1, ⟨rfl, rfl, rfl, rfl, trivial⟩⟩
        · dsimp only; (first | lia | omega)
        · dsimp only; (first | lia | omega)
        · rw [hV1, Int.add_mul]; (first | lia | omega)
      · exfalso
        rename (_ : Int) < _ => hx
        rename (_ : Int) ≤ _ ∧ (_ : Int) ≤ _ => hM2
        have vb := V_bound hB1 rfl
        rw [hV1] at vb
        dsimp only at vb
        rw [Int.add_mul] at hx
        split at hx
        · exact (far_not hM2 vb (by clear hx; (first | lia | omega))).1 hx
        · exact (far_not hM2 vb (by clear hx; (first | lia | omega))).2 hx
      · cell_end 7 ((ca, o) :: (A, listOf #[.int S.q0 tkA, .int S.q1 tkB] 0) :: (sl, listOf #[.int s0 u0, .int (s1 + it.size) _] e) :: W1) (fun p hp r hr => by
          rw [List.mem_singleton.mp hr]
          simp only [List.mem_cons] at hp
          rcases hp with h | h | h | h
          · rw [h]; exact mIca
          · rw [h]; exact mIA
          · rw [h]; exact mIsl
          · exact hOwn1 p h It2 (by simp))
        rw [hia] at hl1
        simp only [List.length_cons] at hl1
        refine ⟨trivial, W1, o, _, s0, s1 + it.size, u0, _, e, fun _ h => h, hoT, hW1, hB1, rfl, rfl, ?_, ?_, ?_, hOwn1, ⟨rfl, rfl, rfl, rfl, trivial⟩⟩
        · dsimp only; (first | lia | omega)
        · dsimp only; (first | lia | omega)
        · rw [hV1, Int.add_mul]; (first | lia | omega)
    case fin2 =>
      intro m news hInv h tk F2 N2
      obtain ⟨W, o, S, s0, s1, u0, u1, e, hnw, ho, hW, hB, rfl, rfl, hl0, hl1, hV, hOwn, hM⟩ := hInv
      replace N2 := kst_newsOf (l' := [(ca, o)]) N2 (fun p hp => hnw p (by rw [List.mem_singleton.mp hp]; exact .head _))
      k_steps
      exact con_end hret (by assumption) (by assumption) (by assumption) (by assumption) (by assumption) [(ca, o)] (fun p hp => hp) ⟨rfl, o, rfl, ho⟩
end
end
-- LawA
example : True := by
  w_top off
  trivial
section
section
open EpsOn
theorem cells_con (w : World) (sa : Nat) (vs : List Value) (ns : List Int) (hI : IntsAre vs ns) :
  ∀ (p : Program) (loose : List Str) (mean : ExcName → Option Value) (mg mb : Str → Option Value)
    (dp un : Nat) (gd : Option (List Code)) (cn : Str) (cs : Scope) (a : Addr) (ccd : Value) (cl : List (Str × Addr)) (outer : List Env) (A₀ : Around) (base h₀ : Heap) (L : Addr) (m : Str → Option Value)
    (s : Shared) (Q E : Value → Shared → Prop),
    Below A₀ base outer h₀ → Fr h₀ L s.heap m → (Mine.hd.heap_1 w.params).In h₀ → News h₀ L s.heap [] → Top p loose mean mg mb h₀ → cs.kind = .function →
    dp + 10 < recursionLimit → un + 600 < cLine → h₀.IsList sa vs.toArray → (∀ ca o h' tk, CellOk o → Fr h₀ L h' m → News h₀ L h' [(ca, o)] → Q (.ref ca) { s with heap := h', toks := tk }) →
    wpAny (model pw w) (ktrTop dp un gd cn cs L a ccd cl outer) (call (.ref 340) [.ref sa]) Q E s := by
  revert w sa vs ns hI
  intro w sa vs ns hI
  intro p loose mean mg mb dp un gd cn cs a ccd cl outer A₀ base h₀ L m s Q E B F X N T hk hd hu hL hret
  refine wpAny_call ?_
  k_dflt (cell_ask [(Str.ofString "script", .ref sa)])
  rename_i g1 L1 h1 FG1 F1 N1 B1 X1 T1 hin1 l11
  have hL1 : g1.IsList sa vs.toArray := by
    obtain ⟨o, ho, r⟩ := hL
    exact ⟨o, hin1 _ _ (F.keep _ _ ho) (by simp), r⟩
  have hI2 := hI
  cases hI2 with
  | nil =>
    k_steps
    all_goals
      refine hret _ (listOf #[.int _ _, .int (Int.fmod _ 2147483647) _] _) _ _ ⟨_, _, _, _, _, rfl, (fm (by decide)).1, (fm (by decide)).2⟩ (by assumption) (kst_newsOf (by assumption) (fun p hp => by rw [List.mem_singleton.mp hp]; exact List.Mem.head _))
  | cons n t hr =>
    k_steps
    all_goals
      refine hret _ (listOf #[.int _ _, .int (Int.fmod _ 2147483647) _] _) _ _ ⟨_, _, _, _, _, rfl, (fm (by decide)).1, (fm (by decide)).2⟩ (by assumption) (kst_newsOf (by assumption) (fun p hp => by rw [List.mem_singleton.mp hp]; exact List.Mem.head _))
end
end
example : True := by
  k_with_none
  k_with "call ref" => (k_here; k_dflt (k_extra "con"))
  k_with "binaryOp FloorDiv int int" => (k_here; k_dflt (refine floordiv_int (by k_dflt (first | lia | omega)) ?_ (Or.inl (PyProof.noPylong_small (by k_dflt (first | lia | omega))))))
  k_with "subscriptTail Name Constant ref int" => (k_here; (with_reducible show wpAny _ _ (subscriptTail _ _ (Value.ref _) (Value.int _ _)) _ _ _); k_dflt (first | (kim_at) | (with_unfolding_all refine' itm_led ?z9N ?z9m ?z9a ?z9b ?z9x ?_ ?z9hs ?z9hg; (case z9N => k_asm); (case z9m => k_mem); (case z9a => decide); (case z9b => decide); (case z9x => first | assumption | rfl); (case z9hs => with_unfolding_all rfl); (case z9hg => intro _; with_unfolding_all rfl); k_whole) | (with_unfolding_all refine' tup_led ?z9N ?z9m ?z9a ?z9b ?z9j ?z9x ?_ ?z9hs ?z9hg; (case z9N => k_asm); (case z9m => k_mem); (case z9a => decide); (case z9b => decide); (case z9j => rfl); (case z9x => rfl); (case z9hs => with_unfolding_all rfl); (case z9hg => intro _; with_unfolding_all rfl); k_whole)))
  k_with "subscriptTail Name Name ref int" => (k_here; (with_reducible show wpAny _ _ (subscriptTail _ _ (Value.ref _) (Value.int _ _)) _ _ _); (with_unfolding_all refine' itm_led ?z9N ?z9m ?z9a ?z9b ?z9x ?_ ?z9hs ?z9hg; (case z9N => k_asm); (case z9m => k_mem); (case z9a => first | assumption | k_dflt (first | lia | omega)); (case z9b => k_dflt (first | lia | omega)); (case z9x => first | assumption | exact List.getElem?_set_self (by k_dflt (first | lia | omega))); (case z9hs => with_unfolding_all rfl); (case z9hg => intro _; with_unfolding_all rfl); k_whole))
  k_with "subscriptTail Name Subscript ref int" => (k_here; (with_reducible show wpAny _ _ (subscriptTail _ _ (Value.ref _) (Value.int _ _)) _ _ _); (with_unfolding_all refine' itm_led ?z9N ?z9m ?z9a ?z9b ?z9x ?_ ?z9hs ?z9hg; (case z9N => k_asm); (case z9m => k_mem); (case z9a => first | assumption | k_dflt (first | lia | omega)); (case z9b => k_dflt (first | lia | omega)); (case z9x => first | assumption | exact List.getElem?_set_self (by k_dflt (first | lia | omega))); (case z9hs => with_unfolding_all rfl); (case z9hg => intro _; with_unfolding_all rfl); k_whole))
  k_with "subscriptTail Attribute" => (k_here; k_dflt (refine kba_turn (value' := PySem.Expr.Name (PySem.Str.ofString "_") ⟨0, 0, 0, 0⟩) (fun _ => rfl) ?_))
  k_with "subscriptTail Subscript" => (k_here; k_dflt (refine kba_turn (value' := PySem.Expr.Name (PySem.Str.ofString "_") ⟨0, 0, 0, 0⟩) (fun _ => rfl) ?_))
  k_with "subscriptTail Call" => (k_here; k_dflt (refine kba_turn (value' := PySem.Expr.Name (PySem.Str.ofString "_") ⟨0, 0, 0, 0⟩) (fun _ => rfl) ?_))
  k_with "call builtin:len" => (k_here; (with_reducible show wpAny _ _ (call (Value.builtin "len") [Value.ref _]) _ _ _); k_dflt (refine' len_led ?z9k1 ?z9k2 ?z9k3 ?_; (case z9k1 => k_asm); (case z9k2 => k_mem); (case z9k3 => first | assumption | k_dflt (first | lia | omega) | (simp only [List.length_cons, List.length_nil]; k_dflt (first | lia | omega))); k_whole))
  k_with "compareOp Eq ref ref" => (k_here; (with_reducible show wpAny _ _ (compareOp CmpOp.Eq (Value.ref _) (Value.ref _)) _ _ _); k_dflt (refine' eq_nil_led ?z9k1 ?z9k2 ?z9k3 ?z9k4 ?_; (case z9k1 => k_asm); (case z9k2 => k_mem); (case z9k3 => k_mem); (case z9k4 => ktr_units); k_whole))
  k_with "compareOp NotEq ref ref" => (k_here; (with_reducible show wpAny _ _ (compareOp CmpOp.NotEq (Value.ref _) (Value.ref _)) _ _ _); k_dflt (refine' ne_nil_led ?z9k1 ?z9k2 ?z9k3 ?z9k4 ?_; (case z9k1 => k_asm); (case z9k2 => k_mem); (case z9k3 => k_mem); (case z9k4 => ktr_units); k_whole))
  k_with "call builtin:list.pop" => (k_here; (with_reducible show wpAny _ _ (call (Value.builtin _) [Value.ref _, Value.int _ _]) _ _ _); k_dflt (refine' pop0_led ?z9F ?z9N ?z9U ?z9z ?_; (case z9F => k_asm); (case z9N => k_asm); (case z9U => k_upd); (case z9z => first | assumption | k_dflt (first | lia | omega)); k_whole); cell_end 21 0 0; (try k_sweep))
  k_with "call builtin:sum" => (k_here; (with_reducible show wpAny _ _ (call (Value.builtin "sum") [Value.ref _]) _ _ _); k_dflt (refine' sum_led ?z9k0 ?z9k1 ?z9k2 ?z9k3 ?z9k4 ?_; (case z9k0 => with_unfolding_all rfl); (case z9k1 => k_asm); (case z9k2 => k_asm); (case z9k3 => k_mem); (case z9k4 => assumption); k_whole); cell_end 22 0 0; (try k_sweep))
  k_with "eval ListComp" => (k_here; (with_reducible show wpAny _ _ (eval (Expr.ListComp _ [Comprehension.mk _ _ [] _] _ _) _) _ _ _); k_dflt (refine LCg.ListComp_U (F₀ := by k_asm) (by with_unfolding_all rfl) (by decide) (by rfl) (by decide) (by rfl) ?_))
  k_with "eval ListComp" => (k_here; (with_reducible show wpAny _ _ (eval (Expr.ListComp _ [Comprehension.mk _ _ [_] _] _ _) _) _ _ _); k_dflt (refine LCt.ListComp_T (F₀ := by k_asm) (by with_unfolding_all rfl) (by decide) (by rfl) (by decide) (by rfl) ?_))
  k_with "CompSrc" => (k_here; k_dflt (refine' LCg.CompSrc.ledger ?z9kh ?z9kF ?z9kN ?z9km ?_ ?_; (case z9kh => rfl); (case z9kF => k_asm); (case z9kN => k_asm); (case z9km => k_mem); rotate_left; cell_end 24 0 0; (try dsimp only); k_extra "rest"))
  k_with "call builtin:max" => (k_here; (with_reducible show wpAny _ _ (call (Value.builtin "max") [Value.int _ _, Value.int _ _]) _ _ _); k_dflt (refine' max2_led ?z9k0 ?z9k1 ?z9k2 ?_; (case z9k0 => with_unfolding_all rfl); (case z9k1 => k_asm); (case z9k2 => k_asm); k_whole); cell_end 22 0 0; (try k_sweep))
  k_with "call builtin:min" => (k_here; (with_reducible show wpAny _ _ (call (Value.builtin "min") [Value.int _ _, Value.int _ _]) _ _ _); k_dflt (refine' min2_led ?z9k0 ?z9k1 ?z9k2 ?_; (case z9k0 => with_unfolding_all rfl); (case z9k1 => k_asm); (case z9k2 => k_asm); k_whole); cell_end 22 0 0; (try k_sweep))
  k_with "binaryOp Mult ref int" => (k_here; (with_reducible show wpAny _ _ (binaryOp Operator.Mult (Value.ref _) (Value.int _ _)) _ _ _); k_dflt (refine' mulrep_led ?z9k1 ?z9k2 ?z9k3 ?z9k4 ?z9k5 ?_; (case z9k1 => k_asm); (case z9k2 => k_asm); (case z9k3 => k_mem); (case z9k4 => k_dflt (first | lia | omega)); (case z9k5 => k_dflt (first | lia | omega)); k_whole); cell_end 23 0 0; (try k_sweep))
  k_with "setItem ref int" => (k_here; k_dflt (refine' set_led ?z9k1 ?z9k2 ?z9k3 ?z9k4 ?z9k5 ?z9k6 ?_; (case z9k1 => k_asm); (case z9k2 => k_asm); (case z9k3 => k_upd); (case z9k4 => first | assumption | k_dflt (first | lia | omega)); (case z9k5 => first | assumption | k_dflt (first | lia | omega)); (case z9k6 => k_dflt (first | lia | omega)); k_whole); cell_end 21 0 0; (try k_sweep))
  k_with "newList" => (k_here; k_dflt (refine' newList_K ?z9k1 ?z9k2 ?_; (case z9k1 => k_asm); (case z9k2 => k_asm); k_whole); cell_end 23 0 0; (try k_sweep))
  k_with "newTuple" => (k_here; k_dflt (refine' kup_newTuple ?z9k1 ?z9k2 ?_ ?z9kz; (case z9k1 => k_asm); (case z9k2 => k_asm); (case z9kz => exact Nat.le_of_ble_eq_true rfl); k_whole); cell_end 23 0 0; (try k_sweep))
  k_with "call builtin:list.append" => (k_here; (with_reducible show wpAny _ _ (call (Value.builtin _) [Value.ref _, _]) _ _ _); k_dflt (refine' append_led ?z9k1 ?z9k2 ?z9k3 ?z9k4 ?_; (case z9k1 => k_asm); (case z9k2 => k_asm); (case z9k3 => k_upd); (case z9k4 => first | assumption | k_dflt (first | lia | omega)); k_whole); cell_end 21 0 0; (try k_sweep))
  k_with "exec Assign cons ListComp" => (k_here; (with_reducible show wpAny _ _ (exec (Stmt.Assign [_] (Expr.ListComp _ [Comprehension.mk _ _ [_] _] _ _) _) _) _ _ _); k_dflt (refine LCt.Assign_ListComp_T (F₀ := by k_asm) (by rfl) (by with_unfolding_all rfl) (by with_unfolding_all rfl) (by decide) (by rfl) (by decide) (by rfl) (by rfl) (by rfl) ?_))
  k_with "exec Assign cons ListComp" => (k_here; (with_reducible show wpAny _ _ (exec (Stmt.Assign [_] (Expr.ListComp _ [Comprehension.mk _ _ [] _] _ _) _) _) _ _ _); k_dflt (refine LCg.Assign_ListComp_U (F₀ := by k_asm) (by rfl) (by with_unfolding_all rfl) (by with_unfolding_all rfl) (by decide) (by rfl) (by decide) (by rfl) (by rfl) (by rfl) ?_))
  k_with "CompSrcT" => (k_here; k_dflt (refine LCt.CompSrcT.range (by rfl) (by k_asm) (by k_asm) (by assumption) (small_one (by k_dflt (first | lia | omega)) (by k_dflt (first | lia | omega)) (by k_dflt (first | lia | omega)) (by k_dflt (first | lia | omega))) (rangeSize_nat _ _) ?_ ?_; rotate_left; cell_end 24 0 0; (try dsimp only); k_extra "restT"))
  k_with "binaryOp Add ref ref" => (k_here; (with_reducible show wpAny _ _ (binaryOp _ (Value.ref _) (Value.ref _)) _ _ _); k_dflt (refine' addT_led ?z9k1 ?z9k2 ?z9k3 ?z9k4 ?z9k5 ?z9k6 ?z9k7 ?z9k8 ?_; (case z9k1 => k_asm); (case z9k2 => k_asm); (case z9k3 => k_mem); (case z9k4 => k_mem); (case z9k5 => exact rfl); (case z9k6 => exact List.cons_ne_nil _ _); (case z9k7 => exact List.cons_ne_nil _ _); (case z9k8 => exact Nat.le_of_ble_eq_true rfl); k_whole); cell_end 23 0 0; (try k_sweep))
  k_with "call builtin:min" => (k_here; (with_reducible show wpAny _ _ (call (Value.builtin "min") [Value.ref _]) _ _ _); k_dflt (k_extra "min"))
  k_with "CompSrcT" => (k_here; k_dflt (refine' LCt.CompSrcT.ledger ?z9kh ?z9kF ?z9kN ?z9km ?_ ?_; (case z9kh => rfl); (case z9kF => k_asm); (case z9kN => k_asm); (case z9km => k_mem); rotate_left; cell_end 24 0 0; (try dsimp only); k_extra "restT"))
  k_with "subscriptTail Name Constant ref str" => (k_here; (with_reducible show wpAny _ _ (subscriptTail _ _ (Value.ref _) (Value.str _ _)) _ _ _); k_dflt (refine' kda_item (knd := PySem.strKind _ _) ?z9N ?z9hp ?z9hd (strKind_is _ _ _ _) ?z9hl ?_ ?z9hs ?z9hg; (case z9N => k_asm); (case z9hp => k_mem); (case z9hd => assumption); (case z9hl => rfl); (case z9hs => with_unfolding_all rfl); (case z9hg => intro _; with_unfolding_all rfl)); k_whole)
  k_with "setItem ref str" => (k_here; k_dflt (refine' kda_set (knd := PySem.strKind _ _) ?z9F ?z9N ?z9U ?z9d (strKind_is _ _ _ _) ?z9z ?_; (case z9F => k_asm); (case z9N => k_asm); (case z9U => k_updF); (case z9d => assumption); (case z9z => rw [sizeLine_eq]; exact Nat.le_of_ble_eq_true (by with_unfolding_all rfl))); cell_end 25 0 0)
  k_with "exec For Tuple Call" => (k_here; k_dflt (refine' For_turns ?z9lF ?_; (case z9lF => k_asm); k_whole))
  k_with "call type:enumerate" => (k_here; k_dflt (refine' ktu_enum ?z9hh ?z9F ?z9N ?z9hm ?z9hc ?z9hd ?z9hx ?_; (case z9hh => rfl); (case z9F => k_asm); (case z9N => k_asm); (case z9hm => k_mem); (case z9hc => rfl); (case z9hd => rfl); (case z9hx => rfl); k_extra "items"))
  k_with "compareOp NotEq ref ref" => (k_here; (with_reducible show wpAny _ _ (compareOp CmpOp.NotEq (Value.ref _) (Value.ref _)) _ _ _); k_dflt (first | (refine' ne_nil_led ?z9k1 ?z9k2 ?z9k3 ?z9k4 ?_; (case z9k1 => k_asm); (case z9k2 => k_mem); (case z9k3 => k_mem); (case z9k4 => ktr_units)) | (refine' ne_tup2 ?z9k1 ?z9k2 ?z9k3 ?z9k4 ?_; (case z9k1 => k_asm); (case z9k2 => k_mem); (case z9k3 => k_mem); (case z9k4 => ktr_units)) | (refine' ne_tup3 ?z9k1 ?z9k2 ?z9k3 ?z9k4 ?_; (case z9k1 => k_asm); (case z9k2 => k_mem); (case z9k3 => k_mem); (case z9k4 => ktr_units))); k_whole)
  k_with "exec For Name Name cons nil" => (k_here; k_dflt (refine' For_turns ?z9lF ?_; (case z9lF => k_asm); k_whole))
  k_with "exec For Name Call cons nil" => (k_here; k_dflt (refine' For_turns ?z9lF ?_; (case z9lF => k_asm); k_whole))
  k_with "pyIter ref" => (k_here; (with_reducible show wpAny _ _ (pyIter (Value.ref _)) (fun it s₂ => TurnsAt _ _ _ _ _ _ _ _ _ it s₂) _ _); k_dflt (first | (refine' iter_rangeTurns ?z9hh ?z9hr ?z9hs ?z9hn ?z9F ?z9N ?_; (case z9hh => rfl); (case z9hr => assumption); (case z9hs => first | decide | exact small_one (by k_dflt (first | lia | omega)) (by k_dflt (first | lia | omega)) (by k_dflt (first | lia | omega)) (by k_dflt (first | lia | omega))); (case z9hn => exact rangeSize_nat _ _); (case z9F => k_asm); (case z9N => k_asm); k_extra "items") | (refine' iter_listTurns ?z9hh ?z9F ?z9N ?z9hm ?z9hc ?z9hd ?_; (case z9hh => rfl); (case z9F => k_asm); (case z9N => k_asm); (case z9hm => k_mem); (case z9hc => rfl); (case z9hd => rfl); k_extra "items")))
  k_with "exec While Compare cons nil" => (k_here; k_dflt (k_extra "while"))
  k_with "exec While Constant cons nil" => (k_here; k_dflt (k_extra "while"))
  k_with "UnrEndW" => refine hold ?_
  k_with "eval ListComp" => (k_here; (with_reducible show wpAny _ _ (eval (Expr.ListComp _ [Comprehension.mk (Expr.Tuple _ _ _) _ [] _] _ _) _) _ _ _); k_dflt (refine LCp.ListComp_P (F₀ := by k_asm) (by with_unfolding_all rfl) (by decide) (by rfl) (by decide) (by rfl) (by rfl) (by decide) ?_))
  k_with "SrcLP" => (k_here; k_dflt (refine' LCp.SrcLP.ledger ?z9kh ?z9kF ?z9kN ?z9km ?_ ?_; (case z9kh => rfl); (case z9kF => k_asm); (case z9kN => k_asm); (case z9km => k_mem); rotate_left; cell_end 24 0 0; (try dsimp only); k_extra "restP"))
  k_with "exec Raise some none" => (k_here; k_dflt (k_extra "raise"))
  k_with "CompSrc" => (k_here; k_dflt (refine LCg.CompSrc.range (by rfl) (by k_asm) (by k_asm) (by assumption) (small_one (by k_dflt (first | lia | omega)) (by k_dflt (first | lia | omega)) (by k_dflt (first | lia | omega)) (by k_dflt (first | lia | omega))) (rangeSize_nat _ _) ?_ ?_; rotate_left; cell_end 24 0 0; (try dsimp only); k_extra "rest"))
  k_with "subscriptTail List Call ref int" => (k_here; k_dflt (k_extra "menu"))
  k_with "exec For Tuple Subscript cons nil" => (k_here; k_dflt (refine' For_turns ?z9lF ?_; (case z9lF => k_asm); k_whole))
  k_with "subscriptTail Name Slice ref ref" => (k_here; (with_reducible show wpAny _ _ (subscriptTail _ (PySem.Expr.Slice (some _) none none _) (Value.ref _) (Value.ref _)) _ _ _); k_dflt (refine' slice_led ?z9F ?z9N ?z9l ?z9x ?z9z ?_ ?z9s ?z9t; (case z9F => k_asm); (case z9N => k_asm); (case z9l => k_mem); (case z9x => k_dflt (first | lia | omega)); (case z9z => first | assumption | k_dflt (first | lia | omega)); (case z9s => with_unfolding_all rfl); (case z9t => kmk_pure)); cell_end 23 0 0; (try k_sweep))
  k_with "k_mem" => (first | exact List.Mem.head _ | (refine' List.Mem.tail _ ?_; k_mem) | assumption)
  k_with "ask2" => ((case kA => exact rfl); (case kF => exact rfl); (case kK => assumption); (case k1 => k_asm); (case k2 => k_asm); (case k3 => k_asm); (case k4 => k_asm); (case k5 => k_asm); (case k6 => k_is); (case k7 => k_is); (case k8 => ktr_room); (case k9 => first | exact BindsTo.of_eq rfl | exact binds_K (by k_in) rfl (by k_is) rfl rfl rfl); (case c5 => decide); (case kB => exact locs rfl); (case c2 => exact rfl); (case c3 => exact rfl); (case c4 => exact rfl); k_whole)
  k_with "askC2" => ((case kA => exact rfl); (case kF => exact rfl); (case kK => assumption); (case k1 => k_asm); (case k2 => k_asm); (case k3 => k_asm); (case k4 => k_asm); (case k5 => k_asm); (case k6 => k_is); (case k7 => k_is); (case k8 => ktr_room); (case k9 => first | exact BindsTo.of_eq rfl | exact binds_K (by k_in) rfl (by k_is) rfl rfl rfl); (case kB => exact rfl); (case kD => decide +kernel); (case c2 => exact rfl); (case c3 => exact rfl); (case c4 => exact rfl); k_whole)
  k_with "cell_call" => ((case k1 => k_asm); (case k2 => k_asm); (case k3 => k_asm); (case k4 => k_asm); (case k5 => k_asm); (case kK => first | exact rfl | assumption); (case kd => ktr_room); (case ku => ktr_units))
  k_with "k_all" => (first | exact List.forall_mem_nil _ | (refine List.forall_mem_cons.mpr ⟨?_, ?_⟩; (focus k_ne); k_all) | exact OwnOff.ne (by with_reducible assumption) (by k_memK) | exact fresh_ne (by with_reducible assumption) (by intro p hp; k_mem))
  k_with "k_ne" => (first | ((try dsimp only); first | (refine' NeA.ne ?z5h; (case z5h => with_reducible assumption)) | (refine' NeA.en ?z5h; (case z5h => with_reducible assumption)) | (refine' fresh1 ?z5h ?z5m; (case z5h => with_reducible assumption); (case z5m => k_mem)) | (refine' fresh2 ?z5h ?z5m; (case z5h => with_reducible assumption); (case z5m => k_mem))) | (refine neN ?_; (try dsimp only); k_dflt (first | lia | omega)))
  k_with "lcg_sub" => (first | exact List.forall_mem_nil _ | (refine List.forall_mem_cons.mpr ⟨?_, ?_⟩; (focus k_mem); lcg_sub) | (intro p hp; k_mem))
  k_with "ke_reads" => (first | exact List.forall_mem_nil _ | (refine List.forall_mem_cons.mpr ⟨?_, ?_⟩; (focus k_all); ke_reads))
  k_with "cell_step" => (cell_call; (case kp => lcg_src); (case ko => ke_reads))
  k_with "k_in" => (first | k_in_fast | with_reducible assumption | (with_reducible (refine' in_fr ?z4F ?z4X; (case z4F => assumption); (case z4X => assumption))))
  k_with "ends" => ((case F1 => k_asm); (case N1 => k_asm); (case s1 => first | exact fun _ hp => hp | exact fun _ hp => List.Mem.tail _ hp | exact fun _ hp => List.Mem.tail _ (List.Mem.tail _ hp) | lcg_sub))
  k_with "ne" => (first | infer_instance | exact neWorld | exact neShared | exact neAround | exact neParams | exact neItm | exact ⟨default⟩)
  k_with "ep" => (refine @all_epA _ (by k_extra "ne") _ ?_)
  k_with "epq" => (clear zq)
  k_with "epx" => (have zk := @epE_spec _ (by k_extra "ne") _ zh; clear zh)
  k_with "epe" => (replace zk := exE zk)
  k_with "epa" => (have zj := And.left zh; have zk := And.right zh; clear zh)
  k_with "epj" => (clear zj)
  k_with "epk" => (clear zk)
  k_with "cx" => (refine @all_epA _ neCx _ ?_; generalize epA _ _ = zc; refine exI ?_; generalize Cx.p zc = p, Cx.loose zc = loose, Cx.mean zc = mean, Cx.mg zc = mg, Cx.mb zc = mb, Cx.dp zc = dp, Cx.un zc = un, Cx.gd zc = gd, Cx.cn zc = cn, Cx.cs zc = cs, Cx.a zc = a, Cx.ccd zc = ccd, Cx.cl zc = cl, Cx.outer zc = outer, Cx.A₀ zc = A₀, Cx.base zc = base, Cx.h₀ zc = h₀, Cx.L zc = L, Cx.m zc = m, Cx.s zc = s, Cx.Q zc = Q, Cx.E zc = E; clear zc)
  k_with "cxa" => (refine @all_epA _ neCx _ ?_; generalize epA _ _ = zc; refine exI ?_; generalize Cx.p zc = p, Cx.loose zc = loose, Cx.mean zc = mean, Cx.mg zc = mg, Cx.mb zc = mb, Cx.dp zc = dp, Cx.un zc = un, Cx.gd zc = gd, Cx.cn zc = cn, Cx.cs zc = cs, Cx.a zc = ac, Cx.ccd zc = ccd, Cx.cl zc = cl, Cx.outer zc = outer, Cx.A₀ zc = A₀, Cx.base zc = base, Cx.h₀ zc = h₀, Cx.L zc = L, Cx.m zc = m, Cx.s zc = s, Cx.Q zc = Q, Cx.E zc = E; clear zc)
  k_with "i2" => (refine all_2 ?_ ?_; (focus (repeat' (first | exact neWorld | exact neShared | exact neAround | exact neParams | exact neItm | refine nePr ?_ ?_ | infer_instance | exact ⟨default⟩))); generalize ep2 _ _ = zq; refine ex2 ?_)
  k_with "i3" => (refine all_3 ?_ ?_; (focus (repeat' (first | exact neWorld | exact neShared | exact neAround | exact neParams | exact neItm | refine nePr ?_ ?_ | infer_instance | exact ⟨default⟩))); generalize ep3 _ _ = zq; refine ex3 ?_)
  k_with "i4" => (refine all_4 ?_ ?_; (focus (repeat' (first | exact neWorld | exact neShared | exact neAround | exact neParams | exact neItm | refine nePr ?_ ?_ | infer_instance | exact ⟨default⟩))); generalize ep4 _ _ = zq; refine ex4 ?_)
  k_with "i5" => (refine all_5 ?_ ?_; (focus (repeat' (first | exact neWorld | exact neShared | exact neAround | exact neParams | exact neItm | refine nePr ?_ ?_ | infer_instance | exact ⟨default⟩))); generalize ep5 _ _ = zq; refine ex5 ?_)
  k_with "i6" => (refine all_6 ?_ ?_; (focus (repeat' (first | exact neWorld | exact neShared | exact neAround | exact neParams | exact neItm | refine nePr ?_ ?_ | infer_instance | exact ⟨default⟩))); generalize ep6 _ _ = zq; refine ex6 ?_)
  k_with "i7" => (refine all_7 ?_ ?_; (focus (repeat' (first | exact neWorld | exact neShared | exact neAround | exact neParams | exact neItm | refine nePr ?_ ?_ | infer_instance | exact ⟨default⟩))); generalize ep7 _ _ = zq; refine ex7 ?_)
  k_with "i8" => (refine all_8 ?_ ?_; (focus (repeat' (first | exact neWorld | exact neShared | exact neAround | exact neParams | exact neItm | refine nePr ?_ ?_ | infer_instance | exact ⟨default⟩))); generalize ep8 _ _ = zq; refine ex8 ?_)
  k_with "eph" => (clear zh)
  k_with "sub" => (first | exact sub_nil | (refine sub_cons ?_ ?_; (focus (k_extra "mem")); k_extra "sub") | (refine sub_app ?_ ?_; (focus (k_extra "sub")); k_extra "sub") | k_extra "incl")
  k_with "mem" => (with_reducible (first | exact List.mem_cons_self .. | (refine List.mem_cons_of_mem _ ?_; k_extra "mem") | (refine List.mem_append_left _ ?_; k_extra "mem") | (refine List.mem_append_right _ ?_; k_extra "mem") | assumption))
  k_with "incl" => (with_reducible (first | exact fun _ h => h | (refine sub_tail ?_; k_extra "incl") | (refine sub_left ?_; k_extra "incl") | (refine sub_right ?_; k_extra "incl")))
  k_with "room" => ((try dsimp only [depth_under_make, depth_under_kw, depth_in1, depth_deeper, depth_caller, ktrTop]); first | exact room_lt0 (by assumption) | exact room_lt (by assumption) (by decide) | exact room_lt2 (by assumption) (by decide) | exact room_lt3 (by assumption) (by decide))
  k_with "units" => ((try dsimp only [units_in1, units_deeper, Around.mark_units, units_caller, ktrTop]); first | exact room_lt0 (by assumption) | exact room_lt (by assumption) (by decide) | exact room_lt2 (by assumption) (by decide) | exact room_lt3 (by assumption) (by decide))
  trivial
-- Law
example : True := by
  w_top off
  trivial
section
local macro_rules | `(tactic| k_qdec) => `(tactic| first | (rw [Fast.te17448422675489707002, Fast.te821141287760084731]; kernel_rfl) | decide +kernel)
theorem law_all : PySem.Challenge.rw_pf0391_01.Holds := by
  refine Mine.hd ?_
  k_with "con" => (refine hold ?_)
  k_with "rest" => (refine hold ?_)
  k_with "restT" => (refine hold ?_)
  k_go0
  all_goals try k_fold
  rename_i sa vs wl hL ra w1 r0 hI hr hc1 hc2 K0 hD h1 F0 N0
  k_steps
  unfold Hold
  refine cells_con _ sa vs _ hI _ _ _ _ _ _ _ _ _ _ _ _ _ _ _ _ _ _ _ _ _ _ K0 (by k_asm) (by k_asm) N0 (by k_asm) rfl (by ktr_room) (by ktr_units) hL ?_
  intro ca o h2 tk2 ho F2 N2
  k_steps
  unfold Hold
  refine' con_pre (W := []) (R := [(ca, o)]) (fixed_con _) ?k1 ?k2 ?k3 ?k4 ?k5 ?kK ?kd ?ku (fun q hq => hq) (fun _ h => (List.not_mem_nil h).elim) ?_
  cell_call
  rintro r post h2 tk2 ⟨rfl, rfl⟩ F2 N2 _
  rw [List.nil_append] at N2
  k_steps
  unfold Hold
  refine' con_upd (rest := []) (weighted_con _ ca o ho) ?k1 ?k2 ?k3 ?k4 ?k5 ?kK (.cons .head .nil) (fun _ _ _ h => (List.not_mem_nil h).elim) ?kd ?ku ?_
  cell_call
  rintro r post h2 tk2 ⟨rfl, o1, rfl, ho1⟩ F2 N2 _
  rw [List.append_nil] at N2
  k_steps
  unfold Hold
  refine' con_upd (rest := []) (rounds_con _ ca o1 ho1) ?k1 ?k2 ?k3 ?k4 ?k5 ?kK (.cons .head .nil) (fun _ _ _ h => (List.not_mem_nil h).elim) ?kd ?ku ?_
  cell_call
  rintro r post h2 tk2 ⟨rfl, o2, rfl, ho2⟩ F2 N2 _
  rw [List.append_nil] at N2
  k_steps
  unfold Hold
  refine' con_upd (rest := []) (shaper_con _ ca o2 ho2) ?k1 ?k2 ?k3 ?k4 ?k5 ?kK (.cons .head .nil) (fun _ _ _ h => (List.not_mem_nil h).elim) ?kd ?ku ?_
  cell_call
  rintro r post h2 tk2 ⟨rfl, o3, rfl, ho3⟩ F2 N2 _
  rw [List.append_nil] at N2
  walk1
  rw [if_neg (by decide)]
  walk1
  rw [if_neg (by decide)]
  k_steps
  unfold Hold
  rename_i L11 hL11 lL11 L12 hL12 lL12 T1 hT1 lT1 L21 hL21 lL21 P2 hP2 lP2 L22 hL22 lL22 T2 hT2 lT2 L31 hL31 lL31 P3 hP3 lP3 L32 hL32 lL32 T3 hT3 lT3 L41 hL41 lL41 P41 hP41 lP41 P42 hP42 lP42 L42 hL42 lL42 T4 hT4 lT4 WR hWR lWR h8 F8 N8 g8
  refine compRestT_ind (fun i ys news => news = _ ∧ ys = []) ?turn ?fin _ _ _ _ (Nat.zero_add _) ⟨rfl, rfl⟩
  case turn =>
    intro i ys news v I oI C oC D m₂ h tk E' hi hInv hP hC hx F2 N2 off1 ne1
    obtain ⟨e, rfl⟩ := hInv
    rw [e] at N2 off1
    have hi4 : i = 0 ∨ i = 1 ∨ i = 2 ∨ i = 3 := by
      have : i < 4 := hi
      (first | lia | omega)
    rcases hi4 with rfl | rfl | rfl | rfl
    · obtain rfl : v = .ref T1 := by simpa using hP.symm
      k_steps
      unfold Hold
      refine' refu_con _ L11 L12 _ (defErrA _ L11 L12 _ _ _ _ ?m1 ?m2) _ _ _ _ _ _ _ _ _ _ _ _ _ _ _ _ _ _ _ _ K0 ?k1 ?k2 ?k3 ?k4 ?k5 ?k6 rfl ?kd ?ku ?_
      (case k3 => k_asm); (case k1 => k_asm); (case k2 => k_asm); (case k4 => k_asm); (case k5 => k_asm); (case k6 => k_asm); (case kd => ktr_room); (case ku => ktr_units)
      (case m1 => k_mem); (case m2 => k_mem)
      intro h3 tk3 F3 N3
      walk1
      dsimp only [qk]
      rw [if_neg (by decide)]
      exact LCg.CompEnd.intro (by assumption) (by assumption) _ (fun p hp => hp) off1 (Or.inr ⟨_, by k_mem, rfl, _, rfl⟩) ⟨rfl, rfl⟩
    · obtain rfl : v = .ref T2 := by simpa using hP.symm
      k_steps
      unfold Hold
      refine' refu_con _ L21 L22 _ (defErrB _ L21 L22 P2 _ _ _ _ _ _ ?m1 ?m2 ?m3) _ _ _ _ _ _ _ _ _ _ _ _ _ _ _ _ _ _ _ _ K0 ?k1 ?k2 ?k3 ?k4 ?k5 ?k6 rfl ?kd ?ku ?_
      (case k3 => k_asm); (case k1 => k_asm); (case k2 => k_asm); (case k4 => k_asm); (case k5 => k_asm); (case k6 => k_asm); (case kd => ktr_room); (case ku => ktr_units)
      (case m1 => k_mem); (case m2 => k_mem); (case m3 => k_mem)
      intro h3 tk3 F3 N3
      walk1
      dsimp only [qk]
      rw [if_neg (by decide)]
      exact LCg.CompEnd.intro (by assumption) (by assumption) _ (fun p hp => hp) off1 (Or.inr ⟨_, by k_mem, rfl, _, rfl⟩) ⟨rfl, rfl⟩
    · obtain rfl : v = .ref T3 := by simpa using hP.symm
      k_steps
      unfold Hold
      refine' refu_con _ L31 L32 _ (defErrC _ L31 L32 P3 _ _ _ _ _ _ ?m1 ?m2 ?m3) _ _ _ _ _ _ _ _ _ _ _ _ _ _ _ _ _ _ _ _ K0 ?k1 ?k2 ?k3 ?k4 ?k5 ?k6 rfl ?kd ?ku ?_
      (case k3 => k_asm); (case k1 => k_asm); (case k2 => k_asm); (case k4 => k_asm); (case k5 => k_asm); (case k6 => k_asm); (case kd => ktr_room); (case ku => ktr_units)
      (case m1 => k_mem); (case m2 => k_mem); (case m3 => k_mem)
      intro h3 tk3 F3 N3
      walk1
      dsimp only [qk]
      rw [if_neg (by decide)]
      exact LCg.CompEnd.intro (by assumption) (by assumption) _ (fun p hp => hp) off1 (Or.inr ⟨_, by k_mem, rfl, _, rfl⟩) ⟨rfl, rfl⟩
    · obtain rfl : v = .ref T4 := by simpa using hP.symm
      k_steps
      unfold Hold
      refine' refu_con _ L41 L42 _ (defErrD _ L41 L42 _ _ _ _ _ _ _ ?m1 ?m2) _ _ _ _ _ _ _ _ _ _ _ _ _ _ _ _ _ _ _ _ K0 ?k1 ?k2 ?k3 ?k4 ?k5 ?k6 rfl ?kd ?ku ?_
      (case k3 => k_asm); (case k1 => k_asm); (case k2 => k_asm); (case k4 => k_asm); (case k5 => k_asm); (case k6 => k_asm); (case kd => ktr_room); (case ku => ktr_units)
      (case m1 => k_mem); (case m2 => k_mem)
      intro h3 tk3 F3 N3
      walk1
      dsimp only [qk]
      rw [if_neg (by decide)]
      exact LCg.CompEnd.intro (by assumption) (by assumption) _ (fun p hp => hp) off1 (Or.inr ⟨_, by k_mem, rfl, _, rfl⟩) ⟨rfl, rfl⟩
  case fin =>
    intro ys news hInv
    obtain ⟨e, rfl⟩ := hInv
    subst e
    k_steps
end
end Mine
theorem PySem.Challenge.cw_pf0391_01_holds : PySem.Challenge.rw_pf0391_01.Holds := by
  exact Mine.law_all
