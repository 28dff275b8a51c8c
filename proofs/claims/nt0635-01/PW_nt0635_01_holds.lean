import PyProof.Rows.All
import Wide.All
import OpenK.AllK
import Wide.FinOn
import Lean
import PySem.Challenge.RW_nt0635_01
open PySem PySem.W PyProof.Rows PySem.Calls PySem.Spec
set_option Elab.async false
set_option maxRecDepth 100000
set_option maxHeartbeats 4000000
set_option linter.all false
set_option genInjectivity false
set_option genSizeOf false
set_option genSizeOfSpec false
namespace Mine
noncomputable abbrev PW : Program := PySem.Challenge.pw_nt0635_01
/-- an AST's parts, by place -/
noncomputable def stAt (i : Nat) : Option Stmt := PW.main.body[i]?
noncomputable def fpOf (s : Option Stmt) : Arguments := match s with
  | some (.FunctionDef _ ps _ _ _ _ _ _ _ _) => ps
  | _ => ⟨[], [], none, [], [], none, []⟩
noncomputable def fbOf (s : Option Stmt) : List Stmt := match s with
  | some (.FunctionDef _ _ b _ _ _ _ _ _ _) => b
  | _ => []
noncomputable def fsOf (s : Option Stmt) : Scope := match s with
  | some (.FunctionDef _ _ _ _ _ _ sc _ _ _) => sc
  | _ => { kind := .function, names := [], isGenerator := false, isCoroutine := false }
noncomputable def mtAt (i j : Nat) : Option Stmt := match stAt i with
  | some (.ClassDef _ _ _ b _ _ _ _ _ _ _) => b[j]?
  | _ => none
noncomputable abbrev fps (i : Nat) := fpOf (stAt i)
noncomputable abbrev fbd (i : Nat) := fbOf (stAt i)
noncomputable abbrev fsc (i : Nat) := fsOf (stAt i)
noncomputable abbrev mps (i j : Nat) := fpOf (mtAt i j)
noncomputable abbrev mbd (i j : Nat) := fbOf (mtAt i j)
noncomputable abbrev msc (i j : Nat) := fsOf (mtAt i j)
noncomputable def k2 (P : Params) : Obj := { cls := Value.none, data := Data.dict #[{ hash := PyData.keyHash P "type.__subclasses__.Exception.0", key := Value.str "type.__subclasses__.Exception.0" 288, val := Value.int 67 0 }, { hash := PyData.keyHash P "type.__subclasses__.Exception.n", key := Value.str "type.__subclasses__.Exception.n" 289, val := Value.int 2 0 }, { hash := PyData.keyHash P "type.__subclasses__.Exception.1", key := Value.str "type.__subclasses__.Exception.1" 317, val := Value.int 87 0 }] 3 }
noncomputable def k3 (P : Params) : Obj := { cls := Value.type "dict", data := Data.dict #[{ hash := PyData.keyHash P "__name__", key := Value.str "__name__" 165, val := Value.str "law_nt0635_01" 448 }, { hash := PyData.keyHash P "__doc__", key := Value.str "__doc__" 166, val := Value.none }, { hash := PyData.keyHash P "__package__", key := Value.str "__package__" 167, val := Value.none }, { hash := PyData.keyHash P "__loader__", key := Value.str "__loader__" 168, val := Value.builtin "__main__.__loader__#opaque" }, { hash := PyData.keyHash P "__spec__", key := Value.str "__spec__" 169, val := Value.none }, { hash := PyData.keyHash P "__annotations__", key := Value.str "__annotations__" 170, val := Value.ref 6 }, { hash := PyData.keyHash P "__builtins__", key := Value.str "__builtins__" 171, val := Value.ref 4 }, { hash := PyData.keyHash P "__file__", key := Value.str "__file__" 173, val := Value.str "/claim/cut.py" 172 }, { hash := PyData.keyHash P "__cached__", key := Value.str "__cached__" 174, val := Value.none }, { hash := PyData.keyHash P "BLANKS", key := Value.str "BLANKS" 190, val := Value.bytes #[32, 9, 10, 11, 12, 13] 189 }, { hash := PyData.keyHash P "Limits", key := Value.str "Limits" 261, val := Value.ref 46 }, { hash := PyData.keyHash P "LuaError", key := Value.str "LuaError" 291, val := Value.ref 67 }, { hash := PyData.keyHash P "ApiError", key := Value.str "ApiError" 320, val := Value.ref 87 }, { hash := PyData.keyHash P "wrap", key := Value.str "wrap" 329, val := Value.ref 97 }, { hash := PyData.keyHash P "divide", key := Value.str "divide" 338, val := Value.ref 104 }, { hash := PyData.keyHash P "power", key := Value.str "power" 349, val := Value.ref 111 }, { hash := PyData.keyHash P "arith", key := Value.str "arith" 360, val := Value.ref 118 }, { hash := PyData.keyHash P "is_blank", key := Value.str "is_blank" 367, val := Value.ref 125 }, { hash := PyData.keyHash P "digit_of", key := Value.str "digit_of" 374, val := Value.ref 132 }, { hash := PyData.keyHash P "read_digits", key := Value.str "read_digits" 385, val := Value.ref 139 }, { hash := PyData.keyHash P "skip_blanks", key := Value.str "skip_blanks" 393, val := Value.ref 146 }, { hash := PyData.keyHash P "text_in_base", key := Value.str "text_in_base" 407, val := Value.ref 153 }, { hash := PyData.keyHash P "number_text", key := Value.str "number_text" 416, val := Value.ref 160 }, { hash := PyData.keyHash P "float_byte", key := Value.str "float_byte" 424, val := Value.ref 167 }, { hash := PyData.keyHash P "byte_float", key := Value.str "byte_float" 432, val := Value.ref 174 }, { hash := PyData.keyHash P "log2", key := Value.str "log2" 440, val := Value.ref 181 }, { hash := PyData.keyHash P "ceil_log2", key := Value.str "ceil_log2" 447, val := Value.ref 188 }, { hash := PyData.keyHash P "_law_ops", key := Value.str "_law_ops" 455, val := Value.ref 195 }, { hash := PyData.keyHash P "_law_cell", key := Value.str "_law_cell" 463, val := Value.ref 202 }, { hash := PyData.keyHash P "_law_cut", key := Value.str "_law_cut" 473, val := Value.ref 209 }, { hash := PyData.keyHash P "_law_digits", key := Value.str "_law_digits" 482, val := Value.ref 216 }, { hash := PyData.keyHash P "_law_octets", key := Value.str "_law_octets" 488, val := Value.ref 221 }, { hash := PyData.keyHash P "_law_capitals", key := Value.str "_law_capitals" 494, val := Value.ref 226 }, { hash := PyData.keyHash P "_law_sort", key := Value.str "_law_sort" 502, val := Value.ref 233 }, { hash := PyData.keyHash P "_law_marked", key := Value.str "_law_marked" 512, val := Value.ref 240 }, { hash := PyData.keyHash P "_law_read", key := Value.str "_law_read" 528, val := Value.ref 247 }, { hash := PyData.keyHash P "_law_power", key := Value.str "_law_power" 539, val := Value.ref 254 }, { hash := PyData.keyHash P "_law_done", key := Value.str "_law_done" 551, val := Value.ref 261 }, { hash := PyData.keyHash P "_law_tried", key := Value.str "_law_tried" 561, val := Value.ref 268 }, { hash := PyData.keyHash P "_law_like", key := Value.str "_law_like" 569, val := Value.ref 275 }, { hash := PyData.keyHash P "_law_drawn", key := Value.str "_law_drawn" 575, val := Value.ref 280 }, { hash := PyData.keyHash P "_law_texts_right", key := Value.str "_law_texts_right" 590, val := Value.ref 287 }, { hash := PyData.keyHash P "_law_rings_right", key := Value.str "_law_rings_right" 605, val := Value.ref 294 }, { hash := PyData.keyHash P "_law_sizes_right", key := Value.str "_law_sizes_right" 614, val := Value.ref 301 }, { hash := PyData.keyHash P "law", key := Value.str "law" 631, val := Value.ref 308 }] 45 }
noncomputable def k22 (P : Params) : Obj := { cls := Value.type "tuple", data := Data.seq #[Value.int 64 203, Value.int 250 204, Value.int 60 205, Value.int 200 206, Value.int 40 207, Value.int 200 208, Value.int 2000 209, Value.int 50 210, Value.int 1000000000 211, Value.int 1000000 212] }
noncomputable def k23 (P : Params) : Obj := { cls := Value.type "tuple", data := Data.seq #[] }
noncomputable def k25 (P : Params) : Obj := { cls := Value.type "tuple", data := Data.seq #[Value.str "self" 216, Value.str "width" 217, Value.str "registers" 218, Value.str "upvalues" 219, Value.str "local_names" 220, Value.str "ccalls" 221, Value.str "frames" 222, Value.str "stack" 223, Value.str "flush" 224, Value.str "steps" 225, Value.str "text" 226] }
noncomputable def k26 (P : Params) : Obj := { cls := Value.type "tuple", data := Data.seq #[] }
noncomputable def k28 (P : Params) : Obj := { cls := Value.type "code", data := Data.fields #[Value.str "__init__" 213, Value.str "Limits.__init__" 214, Value.str "/claim/cut.py" 215, Value.int 5 0, Value.int 11 0, Value.int 0 0, Value.int 0 0, Value.int 3 0, Value.ref 23, Value.bool true, Value.int 181 0, Value.ref 24, Value.none, Value.ref 25, Value.ref 26, Value.ref 27, Value.int 227 0, Value.int 5 0, Value.str "/claim/cut.py" 228] }
noncomputable def k29 (P : Params) : Obj := { cls := Value.type "function", data := Data.func { name := "__init__", qualname := "Limits.__init__", params := mps 2 0, body := FuncBody.stmts (mbd 2 0), scope := msc 2 0, globals := 3, closure := [], defaults := Value.ref 22, kwdefaults := Value.none, pyModule := Value.str "lua.values" 187, code := Value.ref 28 } }
noncomputable def k30 (P : Params) : Obj := { cls := Value.type "tuple", data := Data.seq #[] }
noncomputable def k32 (P : Params) : Obj := { cls := Value.type "tuple", data := Data.seq #[Value.str "self" 233] }
noncomputable def k33 (P : Params) : Obj := { cls := Value.type "tuple", data := Data.seq #[] }
noncomputable def k35 (P : Params) : Obj := { cls := Value.type "code", data := Data.fields #[Value.str "greatest" 230, Value.str "Limits.greatest" 231, Value.str "/claim/cut.py" 232, Value.int 17 0, Value.int 1 0, Value.int 0 0, Value.int 0 0, Value.int 3 0, Value.ref 30, Value.bool true, Value.int 181 0, Value.ref 31, Value.none, Value.ref 32, Value.ref 33, Value.ref 34, Value.int 234 0, Value.int 17 0, Value.str "/claim/cut.py" 235] }
noncomputable def k36 (P : Params) : Obj := { cls := Value.type "function", data := Data.func { name := "greatest", qualname := "Limits.greatest", params := mps 2 1, body := FuncBody.stmts (mbd 2 1), scope := msc 2 2, globals := 3, closure := [], defaults := Value.none, kwdefaults := Value.none, pyModule := Value.str "lua.values" 187, code := Value.ref 35 } }
noncomputable def k37 (P : Params) : Obj := { cls := Value.type "tuple", data := Data.seq #[] }
noncomputable def k39 (P : Params) : Obj := { cls := Value.type "tuple", data := Data.seq #[Value.str "self" 240] }
noncomputable def k40 (P : Params) : Obj := { cls := Value.type "tuple", data := Data.seq #[] }
noncomputable def k42 (P : Params) : Obj := { cls := Value.type "code", data := Data.fields #[Value.str "least" 237, Value.str "Limits.least" 238, Value.str "/claim/cut.py" 239, Value.int 20 0, Value.int 1 0, Value.int 0 0, Value.int 0 0, Value.int 3 0, Value.ref 37, Value.bool true, Value.int 181 0, Value.ref 38, Value.none, Value.ref 39, Value.ref 40, Value.ref 41, Value.int 241 0, Value.int 20 0, Value.str "/claim/cut.py" 242] }
noncomputable def k43 (P : Params) : Obj := { cls := Value.type "function", data := Data.func { name := "least", qualname := "Limits.least", params := mps 2 2, body := FuncBody.stmts (mbd 2 2), scope := msc 2 2, globals := 3, closure := [], defaults := Value.none, kwdefaults := Value.none, pyModule := Value.str "lua.values" 187, code := Value.ref 42 } }
noncomputable def k44 (P : Params) : Obj := { cls := Value.type "tuple", data := Data.seq #[Value.str "ccalls" 244, Value.str "flush" 245, Value.str "frames" 246, Value.str "local_names" 247, Value.str "registers" 248, Value.str "stack" 249, Value.str "steps" 250, Value.str "text" 251, Value.str "upvalues" 252, Value.str "width" 253] }
noncomputable def k45 (P : Params) : Obj := { cls := Value.type "dict", data := Data.dict #[{ hash := PyData.keyHash P "__module__", key := Value.str "__module__" 198, val := Value.str "lua.values" 187 }, { hash := PyData.keyHash P "__firstlineno__", key := Value.str "__firstlineno__" 202, val := Value.int 3 201 }, { hash := PyData.keyHash P "__init__", key := Value.str "__init__" 229, val := Value.ref 29 }, { hash := PyData.keyHash P "greatest", key := Value.str "greatest" 236, val := Value.ref 36 }, { hash := PyData.keyHash P "least", key := Value.str "least" 243, val := Value.ref 43 }, { hash := PyData.keyHash P "__static_attributes__", key := Value.str "__static_attributes__" 254, val := Value.ref 44 }, { hash := PyData.keyHash P "__dict__", key := Value.str "__dict__" 256, val := Value.ref 47 }, { hash := PyData.keyHash P "__weakref__", key := Value.str "__weakref__" 258, val := Value.ref 48 }, { hash := PyData.keyHash P "__doc__", key := Value.str "__doc__" 259, val := Value.none }] 4 }
noncomputable def k46 (P : Params) : Obj := { cls := Value.type "type", data := Data.cls { name := "Limits", bases := [Value.type "object"], mro := [Value.ref 46, Value.type "object"], ns := 45, qualname := "Limits" }, slots := #[none, none, some (Value.str "Limits" 191), some (Value.str "Limits" 199), some (Value.builtin "object.__new__"), some (Value.bool true)] }
noncomputable def k47 (P : Params) : Obj := { cls := Value.type "getset_descriptor", data := Data.fields #[Value.str "__dict__" 255, Value.ref 46, Value.builtin "function.__dict__", Value.builtin "function.__dict__#set"] }
noncomputable def k48 (P : Params) : Obj := { cls := Value.type "getset_descriptor", data := Data.fields #[Value.str "__weakref__" 257, Value.ref 46, Value.builtin "ExceptionGroup.__weakref__", Value.none] }
noncomputable def k51 (P : Params) : Obj := { cls := Value.type "tuple", data := Data.seq #[Value.type "Exception"] }
noncomputable def k58 (P : Params) : Obj := { cls := Value.type "tuple", data := Data.seq #[] }
noncomputable def k60 (P : Params) : Obj := { cls := Value.type "tuple", data := Data.seq #[Value.str "self" 277, Value.str "value" 278] }
noncomputable def k61 (P : Params) : Obj := { cls := Value.type "tuple", data := Data.seq #[] }
noncomputable def k63 (P : Params) : Obj := { cls := Value.type "code", data := Data.fields #[Value.str "__init__" 274, Value.str "LuaError.__init__" 275, Value.str "/claim/cut.py" 276, Value.int 24 0, Value.int 2 0, Value.int 0 0, Value.int 0 0, Value.int 3 0, Value.ref 58, Value.bool true, Value.int 181 0, Value.ref 59, Value.none, Value.ref 60, Value.ref 61, Value.ref 62, Value.int 279 0, Value.int 24 0, Value.str "/claim/cut.py" 280] }
noncomputable def k64 (P : Params) : Obj := { cls := Value.type "function", data := Data.func { name := "__init__", qualname := "LuaError.__init__", params := mps 3 0, body := FuncBody.stmts (mbd 3 0), scope := msc 3 0, globals := 3, closure := [], defaults := Value.none, kwdefaults := Value.none, pyModule := Value.str "lua.values" 187, code := Value.ref 63 } }
noncomputable def k65 (P : Params) : Obj := { cls := Value.type "tuple", data := Data.seq #[Value.str "trace" 282, Value.str "value" 283] }
noncomputable def k66 (P : Params) : Obj := { cls := Value.type "dict", data := Data.dict #[{ hash := PyData.keyHash P "__module__", key := Value.str "__module__" 269, val := Value.str "lua.values" 187 }, { hash := PyData.keyHash P "__firstlineno__", key := Value.str "__firstlineno__" 273, val := Value.int 22 272 }, { hash := PyData.keyHash P "__init__", key := Value.str "__init__" 281, val := Value.ref 64 }, { hash := PyData.keyHash P "__static_attributes__", key := Value.str "__static_attributes__" 284, val := Value.ref 65 }, { hash := PyData.keyHash P "__weakref__", key := Value.str "__weakref__" 286, val := Value.ref 68 }, { hash := PyData.keyHash P "__doc__", key := Value.str "__doc__" 287, val := Value.none }] 3 }
noncomputable def k67 (P : Params) : Obj := { cls := Value.type "type", data := Data.cls { name := "LuaError", bases := [Value.type "Exception"], mro := [Value.ref 67, Value.type "Exception", Value.type "BaseException", Value.type "object"], ns := 66, qualname := "LuaError" }, slots := #[some (Value.ref 51), none, some (Value.str "LuaError" 262), some (Value.str "LuaError" 270), some (Value.builtin "Exception.__new__"), some (Value.bool true)] }
noncomputable def k68 (P : Params) : Obj := { cls := Value.type "getset_descriptor", data := Data.fields #[Value.str "__weakref__" 285, Value.ref 67, Value.builtin "ExceptionGroup.__weakref__", Value.none] }
noncomputable def k71 (P : Params) : Obj := { cls := Value.type "tuple", data := Data.seq #[Value.type "Exception"] }
noncomputable def k78 (P : Params) : Obj := { cls := Value.type "tuple", data := Data.seq #[] }
noncomputable def k80 (P : Params) : Obj := { cls := Value.type "tuple", data := Data.seq #[Value.str "self" 307, Value.str "text" 308] }
noncomputable def k81 (P : Params) : Obj := { cls := Value.type "tuple", data := Data.seq #[] }
noncomputable def k83 (P : Params) : Obj := { cls := Value.type "code", data := Data.fields #[Value.str "__init__" 304, Value.str "ApiError.__init__" 305, Value.str "/claim/cut.py" 306, Value.int 29 0, Value.int 2 0, Value.int 0 0, Value.int 0 0, Value.int 3 0, Value.ref 78, Value.bool true, Value.int 181 0, Value.ref 79, Value.none, Value.ref 80, Value.ref 81, Value.ref 82, Value.int 309 0, Value.int 29 0, Value.str "/claim/cut.py" 310] }
noncomputable def k84 (P : Params) : Obj := { cls := Value.type "function", data := Data.func { name := "__init__", qualname := "ApiError.__init__", params := mps 4 0, body := FuncBody.stmts (mbd 4 0), scope := msc 4 0, globals := 3, closure := [], defaults := Value.none, kwdefaults := Value.none, pyModule := Value.str "lua.values" 187, code := Value.ref 83 } }
noncomputable def k85 (P : Params) : Obj := { cls := Value.type "tuple", data := Data.seq #[Value.str "text" 312] }
noncomputable def k86 (P : Params) : Obj := { cls := Value.type "dict", data := Data.dict #[{ hash := PyData.keyHash P "__module__", key := Value.str "__module__" 299, val := Value.str "lua.values" 187 }, { hash := PyData.keyHash P "__firstlineno__", key := Value.str "__firstlineno__" 303, val := Value.int 27 302 }, { hash := PyData.keyHash P "__init__", key := Value.str "__init__" 311, val := Value.ref 84 }, { hash := PyData.keyHash P "__static_attributes__", key := Value.str "__static_attributes__" 313, val := Value.ref 85 }, { hash := PyData.keyHash P "__weakref__", key := Value.str "__weakref__" 315, val := Value.ref 88 }, { hash := PyData.keyHash P "__doc__", key := Value.str "__doc__" 316, val := Value.none }] 3 }
noncomputable def k87 (P : Params) : Obj := { cls := Value.type "type", data := Data.cls { name := "ApiError", bases := [Value.type "Exception"], mro := [Value.ref 87, Value.type "Exception", Value.type "BaseException", Value.type "object"], ns := 86, qualname := "ApiError" }, slots := #[some (Value.ref 71), none, some (Value.str "ApiError" 292), some (Value.str "ApiError" 300), some (Value.builtin "Exception.__new__"), some (Value.bool true)] }
noncomputable def k88 (P : Params) : Obj := { cls := Value.type "getset_descriptor", data := Data.fields #[Value.str "__weakref__" 314, Value.ref 87, Value.builtin "ExceptionGroup.__weakref__", Value.none] }
noncomputable def k91 (P : Params) : Obj := { cls := Value.type "tuple", data := Data.seq #[] }
noncomputable def k93 (P : Params) : Obj := { cls := Value.type "tuple", data := Data.seq #[Value.str "n" 324, Value.str "width" 325, Value.str "low" 326] }
noncomputable def k94 (P : Params) : Obj := { cls := Value.type "tuple", data := Data.seq #[] }
noncomputable def k96 (P : Params) : Obj := { cls := Value.type "code", data := Data.fields #[Value.str "wrap" 321, Value.str "wrap" 322, Value.str "/claim/cut.py" 323, Value.int 31 0, Value.int 2 0, Value.int 0 0, Value.int 0 0, Value.int 3 0, Value.ref 91, Value.bool true, Value.int 181 0, Value.ref 92, Value.none, Value.ref 93, Value.ref 94, Value.ref 95, Value.int 327 0, Value.int 31 0, Value.str "/claim/cut.py" 328] }
noncomputable def k97 (P : Params) : Obj := { cls := Value.type "function", data := Data.func { name := "wrap", qualname := "wrap", params := fps 5, body := FuncBody.stmts (fbd 5), scope := fsc 5, globals := 3, closure := [], defaults := Value.none, kwdefaults := Value.none, pyModule := Value.str "lua.values" 187, code := Value.ref 96 } }
noncomputable def k98 (P : Params) : Obj := { cls := Value.type "tuple", data := Data.seq #[] }
noncomputable def k100 (P : Params) : Obj := { cls := Value.type "tuple", data := Data.seq #[Value.str "a" 333, Value.str "b" 334, Value.str "found" 335] }
noncomputable def k101 (P : Params) : Obj := { cls := Value.type "tuple", data := Data.seq #[] }
noncomputable def k103 (P : Params) : Obj := { cls := Value.type "code", data := Data.fields #[Value.str "divide" 330, Value.str "divide" 331, Value.str "/claim/cut.py" 332, Value.int 36 0, Value.int 2 0, Value.int 0 0, Value.int 0 0, Value.int 3 0, Value.ref 98, Value.bool true, Value.int 181 0, Value.ref 99, Value.none, Value.ref 100, Value.ref 101, Value.ref 102, Value.int 336 0, Value.int 36 0, Value.str "/claim/cut.py" 337] }
noncomputable def k104 (P : Params) : Obj := { cls := Value.type "function", data := Data.func { name := "divide", qualname := "divide", params := fps 6, body := FuncBody.stmts (fbd 6), scope := fsc 6, globals := 3, closure := [], defaults := Value.none, kwdefaults := Value.none, pyModule := Value.str "lua.values" 187, code := Value.ref 103 } }
noncomputable def k105 (P : Params) : Obj := { cls := Value.type "tuple", data := Data.seq #[] }
noncomputable def k107 (P : Params) : Obj := { cls := Value.type "tuple", data := Data.seq #[Value.str "a" 342, Value.str "b" 343, Value.str "width" 344, Value.str "found" 345, Value.str "base" 346] }
noncomputable def k108 (P : Params) : Obj := { cls := Value.type "tuple", data := Data.seq #[] }
noncomputable def k110 (P : Params) : Obj := { cls := Value.type "code", data := Data.fields #[Value.str "power" 339, Value.str "power" 340, Value.str "/claim/cut.py" 341, Value.int 39 0, Value.int 3 0, Value.int 0 0, Value.int 0 0, Value.int 3 0, Value.ref 105, Value.bool true, Value.int 181 0, Value.ref 106, Value.none, Value.ref 107, Value.ref 108, Value.ref 109, Value.int 347 0, Value.int 39 0, Value.str "/claim/cut.py" 348] }
noncomputable def k111 (P : Params) : Obj := { cls := Value.type "function", data := Data.func { name := "power", qualname := "power", params := fps 7, body := FuncBody.stmts (fbd 7), scope := fsc 7, globals := 3, closure := [], defaults := Value.none, kwdefaults := Value.none, pyModule := Value.str "lua.values" 187, code := Value.ref 110 } }
noncomputable def k112 (P : Params) : Obj := { cls := Value.type "tuple", data := Data.seq #[] }
noncomputable def k114 (P : Params) : Obj := { cls := Value.type "tuple", data := Data.seq #[Value.str "op" 353, Value.str "a" 354, Value.str "b" 355, Value.str "limits" 356, Value.str "width" 357] }
noncomputable def k115 (P : Params) : Obj := { cls := Value.type "tuple", data := Data.seq #[] }
noncomputable def k117 (P : Params) : Obj := { cls := Value.type "code", data := Data.fields #[Value.str "arith" 350, Value.str "arith" 351, Value.str "/claim/cut.py" 352, Value.int 53 0, Value.int 4 0, Value.int 0 0, Value.int 0 0, Value.int 3 0, Value.ref 112, Value.bool true, Value.int 181 0, Value.ref 113, Value.none, Value.ref 114, Value.ref 115, Value.ref 116, Value.int 358 0, Value.int 53 0, Value.str "/claim/cut.py" 359] }
noncomputable def k118 (P : Params) : Obj := { cls := Value.type "function", data := Data.func { name := "arith", qualname := "arith", params := fps 8, body := FuncBody.stmts (fbd 8), scope := fsc 8, globals := 3, closure := [], defaults := Value.none, kwdefaults := Value.none, pyModule := Value.str "lua.values" 187, code := Value.ref 117 } }
noncomputable def k119 (P : Params) : Obj := { cls := Value.type "tuple", data := Data.seq #[] }
noncomputable def k121 (P : Params) : Obj := { cls := Value.type "tuple", data := Data.seq #[Value.str "octet" 364] }
noncomputable def k122 (P : Params) : Obj := { cls := Value.type "tuple", data := Data.seq #[] }
noncomputable def k124 (P : Params) : Obj := { cls := Value.type "code", data := Data.fields #[Value.str "is_blank" 361, Value.str "is_blank" 362, Value.str "/claim/cut.py" 363, Value.int 72 0, Value.int 1 0, Value.int 0 0, Value.int 0 0, Value.int 3 0, Value.ref 119, Value.bool true, Value.int 181 0, Value.ref 120, Value.none, Value.ref 121, Value.ref 122, Value.ref 123, Value.int 365 0, Value.int 72 0, Value.str "/claim/cut.py" 366] }
noncomputable def k125 (P : Params) : Obj := { cls := Value.type "function", data := Data.func { name := "is_blank", qualname := "is_blank", params := fps 9, body := FuncBody.stmts (fbd 9), scope := fsc 9, globals := 3, closure := [], defaults := Value.none, kwdefaults := Value.none, pyModule := Value.str "lua.values" 187, code := Value.ref 124 } }
noncomputable def k126 (P : Params) : Obj := { cls := Value.type "tuple", data := Data.seq #[] }
noncomputable def k128 (P : Params) : Obj := { cls := Value.type "tuple", data := Data.seq #[Value.str "octet" 371] }
noncomputable def k129 (P : Params) : Obj := { cls := Value.type "tuple", data := Data.seq #[] }
noncomputable def k131 (P : Params) : Obj := { cls := Value.type "code", data := Data.fields #[Value.str "digit_of" 368, Value.str "digit_of" 369, Value.str "/claim/cut.py" 370, Value.int 74 0, Value.int 1 0, Value.int 0 0, Value.int 0 0, Value.int 3 0, Value.ref 126, Value.bool true, Value.int 181 0, Value.ref 127, Value.none, Value.ref 128, Value.ref 129, Value.ref 130, Value.int 372 0, Value.int 74 0, Value.str "/claim/cut.py" 373] }
noncomputable def k132 (P : Params) : Obj := { cls := Value.type "function", data := Data.func { name := "digit_of", qualname := "digit_of", params := fps 10, body := FuncBody.stmts (fbd 10), scope := fsc 10, globals := 3, closure := [], defaults := Value.none, kwdefaults := Value.none, pyModule := Value.str "lua.values" 187, code := Value.ref 131 } }
noncomputable def k133 (P : Params) : Obj := { cls := Value.type "tuple", data := Data.seq #[] }
noncomputable def k135 (P : Params) : Obj := { cls := Value.type "tuple", data := Data.seq #[Value.str "text" 378, Value.str "at" 379, Value.str "base" 380, Value.str "found" 381, Value.str "digit" 382] }
noncomputable def k136 (P : Params) : Obj := { cls := Value.type "tuple", data := Data.seq #[] }
noncomputable def k138 (P : Params) : Obj := { cls := Value.type "code", data := Data.fields #[Value.str "read_digits" 375, Value.str "read_digits" 376, Value.str "/claim/cut.py" 377, Value.int 82 0, Value.int 3 0, Value.int 0 0, Value.int 0 0, Value.int 3 0, Value.ref 133, Value.bool true, Value.int 181 0, Value.ref 134, Value.none, Value.ref 135, Value.ref 136, Value.ref 137, Value.int 383 0, Value.int 82 0, Value.str "/claim/cut.py" 384] }
noncomputable def k139 (P : Params) : Obj := { cls := Value.type "function", data := Data.func { name := "read_digits", qualname := "read_digits", params := fps 11, body := FuncBody.stmts (fbd 11), scope := fsc 11, globals := 3, closure := [], defaults := Value.none, kwdefaults := Value.none, pyModule := Value.str "lua.values" 187, code := Value.ref 138 } }
noncomputable def k140 (P : Params) : Obj := { cls := Value.type "tuple", data := Data.seq #[] }
noncomputable def k142 (P : Params) : Obj := { cls := Value.type "tuple", data := Data.seq #[Value.str "text" 389, Value.str "at" 390] }
noncomputable def k143 (P : Params) : Obj := { cls := Value.type "tuple", data := Data.seq #[] }
noncomputable def k145 (P : Params) : Obj := { cls := Value.type "code", data := Data.fields #[Value.str "skip_blanks" 386, Value.str "skip_blanks" 387, Value.str "/claim/cut.py" 388, Value.int 91 0, Value.int 2 0, Value.int 0 0, Value.int 0 0, Value.int 3 0, Value.ref 140, Value.bool true, Value.int 181 0, Value.ref 141, Value.none, Value.ref 142, Value.ref 143, Value.ref 144, Value.int 391 0, Value.int 91 0, Value.str "/claim/cut.py" 392] }
noncomputable def k146 (P : Params) : Obj := { cls := Value.type "function", data := Data.func { name := "skip_blanks", qualname := "skip_blanks", params := fps 12, body := FuncBody.stmts (fbd 12), scope := fsc 12, globals := 3, closure := [], defaults := Value.none, kwdefaults := Value.none, pyModule := Value.str "lua.values" 187, code := Value.ref 145 } }
noncomputable def k147 (P : Params) : Obj := { cls := Value.type "tuple", data := Data.seq #[] }
noncomputable def k149 (P : Params) : Obj := { cls := Value.type "tuple", data := Data.seq #[Value.str "text" 397, Value.str "base" 398, Value.str "limits" 399, Value.str "at" 400, Value.str "is_below" 401, Value.str "is_marked" 402, Value.str "found" 403, Value.str "end" 404] }
noncomputable def k150 (P : Params) : Obj := { cls := Value.type "tuple", data := Data.seq #[] }
noncomputable def k152 (P : Params) : Obj := { cls := Value.type "code", data := Data.fields #[Value.str "text_in_base" 394, Value.str "text_in_base" 395, Value.str "/claim/cut.py" 396, Value.int 95 0, Value.int 3 0, Value.int 0 0, Value.int 0 0, Value.int 3 0, Value.ref 147, Value.bool true, Value.int 181 0, Value.ref 148, Value.none, Value.ref 149, Value.ref 150, Value.ref 151, Value.int 405 0, Value.int 95 0, Value.str "/claim/cut.py" 406] }
noncomputable def k153 (P : Params) : Obj := { cls := Value.type "function", data := Data.func { name := "text_in_base", qualname := "text_in_base", params := fps 13, body := FuncBody.stmts (fbd 13), scope := fsc 13, globals := 3, closure := [], defaults := Value.none, kwdefaults := Value.none, pyModule := Value.str "lua.values" 187, code := Value.ref 152 } }
noncomputable def k154 (P : Params) : Obj := { cls := Value.type "tuple", data := Data.seq #[] }
noncomputable def k156 (P : Params) : Obj := { cls := Value.type "tuple", data := Data.seq #[Value.str "n" 411, Value.str "left" 412, Value.str "found" 413] }
noncomputable def k157 (P : Params) : Obj := { cls := Value.type "tuple", data := Data.seq #[] }
noncomputable def k159 (P : Params) : Obj := { cls := Value.type "code", data := Data.fields #[Value.str "number_text" 408, Value.str "number_text" 409, Value.str "/claim/cut.py" 410, Value.int 107 0, Value.int 1 0, Value.int 0 0, Value.int 0 0, Value.int 3 0, Value.ref 154, Value.bool true, Value.int 181 0, Value.ref 155, Value.none, Value.ref 156, Value.ref 157, Value.ref 158, Value.int 414 0, Value.int 107 0, Value.str "/claim/cut.py" 415] }
noncomputable def k160 (P : Params) : Obj := { cls := Value.type "function", data := Data.func { name := "number_text", qualname := "number_text", params := fps 14, body := FuncBody.stmts (fbd 14), scope := fsc 14, globals := 3, closure := [], defaults := Value.none, kwdefaults := Value.none, pyModule := Value.str "lua.values" 187, code := Value.ref 159 } }
noncomputable def k161 (P : Params) : Obj := { cls := Value.type "tuple", data := Data.seq #[] }
noncomputable def k163 (P : Params) : Obj := { cls := Value.type "tuple", data := Data.seq #[Value.str "x" 420, Value.str "shift" 421] }
noncomputable def k164 (P : Params) : Obj := { cls := Value.type "tuple", data := Data.seq #[] }
noncomputable def k166 (P : Params) : Obj := { cls := Value.type "code", data := Data.fields #[Value.str "float_byte" 417, Value.str "float_byte" 418, Value.str "/claim/cut.py" 419, Value.int 117 0, Value.int 1 0, Value.int 0 0, Value.int 0 0, Value.int 3 0, Value.ref 161, Value.bool true, Value.int 181 0, Value.ref 162, Value.none, Value.ref 163, Value.ref 164, Value.ref 165, Value.int 422 0, Value.int 117 0, Value.str "/claim/cut.py" 423] }
noncomputable def k167 (P : Params) : Obj := { cls := Value.type "function", data := Data.func { name := "float_byte", qualname := "float_byte", params := fps 15, body := FuncBody.stmts (fbd 15), scope := fsc 16, globals := 3, closure := [], defaults := Value.none, kwdefaults := Value.none, pyModule := Value.str "lua.values" 187, code := Value.ref 166 } }
noncomputable def k168 (P : Params) : Obj := { cls := Value.type "tuple", data := Data.seq #[] }
noncomputable def k170 (P : Params) : Obj := { cls := Value.type "tuple", data := Data.seq #[Value.str "x" 428, Value.str "shift" 429] }
noncomputable def k171 (P : Params) : Obj := { cls := Value.type "tuple", data := Data.seq #[] }
noncomputable def k173 (P : Params) : Obj := { cls := Value.type "code", data := Data.fields #[Value.str "byte_float" 425, Value.str "byte_float" 426, Value.str "/claim/cut.py" 427, Value.int 125 0, Value.int 1 0, Value.int 0 0, Value.int 0 0, Value.int 3 0, Value.ref 168, Value.bool true, Value.int 181 0, Value.ref 169, Value.none, Value.ref 170, Value.ref 171, Value.ref 172, Value.int 430 0, Value.int 125 0, Value.str "/claim/cut.py" 431] }
noncomputable def k174 (P : Params) : Obj := { cls := Value.type "function", data := Data.func { name := "byte_float", qualname := "byte_float", params := fps 16, body := FuncBody.stmts (fbd 16), scope := fsc 16, globals := 3, closure := [], defaults := Value.none, kwdefaults := Value.none, pyModule := Value.str "lua.values" 187, code := Value.ref 173 } }
noncomputable def k175 (P : Params) : Obj := { cls := Value.type "tuple", data := Data.seq #[] }
noncomputable def k177 (P : Params) : Obj := { cls := Value.type "tuple", data := Data.seq #[Value.str "n" 436, Value.str "found" 437] }
noncomputable def k178 (P : Params) : Obj := { cls := Value.type "tuple", data := Data.seq #[] }
noncomputable def k180 (P : Params) : Obj := { cls := Value.type "code", data := Data.fields #[Value.str "log2" 433, Value.str "log2" 434, Value.str "/claim/cut.py" 435, Value.int 130 0, Value.int 1 0, Value.int 0 0, Value.int 0 0, Value.int 3 0, Value.ref 175, Value.bool true, Value.int 181 0, Value.ref 176, Value.none, Value.ref 177, Value.ref 178, Value.ref 179, Value.int 438 0, Value.int 130 0, Value.str "/claim/cut.py" 439] }
noncomputable def k181 (P : Params) : Obj := { cls := Value.type "function", data := Data.func { name := "log2", qualname := "log2", params := fps 17, body := FuncBody.stmts (fbd 17), scope := fsc 17, globals := 3, closure := [], defaults := Value.none, kwdefaults := Value.none, pyModule := Value.str "lua.values" 187, code := Value.ref 180 } }
noncomputable def k182 (P : Params) : Obj := { cls := Value.type "tuple", data := Data.seq #[] }
noncomputable def k184 (P : Params) : Obj := { cls := Value.type "tuple", data := Data.seq #[Value.str "n" 444] }
noncomputable def k185 (P : Params) : Obj := { cls := Value.type "tuple", data := Data.seq #[] }
noncomputable def k187 (P : Params) : Obj := { cls := Value.type "code", data := Data.fields #[Value.str "ceil_log2" 441, Value.str "ceil_log2" 442, Value.str "/claim/cut.py" 443, Value.int 136 0, Value.int 1 0, Value.int 0 0, Value.int 0 0, Value.int 3 0, Value.ref 182, Value.bool true, Value.int 181 0, Value.ref 183, Value.none, Value.ref 184, Value.ref 185, Value.ref 186, Value.int 445 0, Value.int 136 0, Value.str "/claim/cut.py" 446] }
noncomputable def k188 (P : Params) : Obj := { cls := Value.type "function", data := Data.func { name := "ceil_log2", qualname := "ceil_log2", params := fps 18, body := FuncBody.stmts (fbd 18), scope := fsc 18, globals := 3, closure := [], defaults := Value.none, kwdefaults := Value.none, pyModule := Value.str "lua.values" 187, code := Value.ref 187 } }
noncomputable def k189 (P : Params) : Obj := { cls := Value.type "tuple", data := Data.seq #[] }
noncomputable def k191 (P : Params) : Obj := { cls := Value.type "tuple", data := Data.seq #[] }
noncomputable def k192 (P : Params) : Obj := { cls := Value.type "tuple", data := Data.seq #[] }
noncomputable def k194 (P : Params) : Obj := { cls := Value.type "code", data := Data.fields #[Value.str "_law_ops" 450, Value.str "_law_ops" 451, Value.str "/claim/cut.py" 452, Value.int 139 0, Value.int 0 0, Value.int 0 0, Value.int 0 0, Value.int 3 0, Value.ref 189, Value.bool true, Value.int 181 0, Value.ref 190, Value.none, Value.ref 191, Value.ref 192, Value.ref 193, Value.int 453 0, Value.int 139 0, Value.str "/claim/cut.py" 454] }
noncomputable def k195 (P : Params) : Obj := { cls := Value.type "function", data := Data.func { name := "_law_ops", qualname := "_law_ops", params := fps 20, body := FuncBody.stmts (fbd 20), scope := fsc 20, globals := 3, closure := [], defaults := Value.none, kwdefaults := Value.none, pyModule := Value.str "law_nt0635_01" 448, code := Value.ref 194 } }
noncomputable def k196 (P : Params) : Obj := { cls := Value.type "tuple", data := Data.seq #[] }
noncomputable def k198 (P : Params) : Obj := { cls := Value.type "tuple", data := Data.seq #[Value.str "script" 459, Value.str "at" 460] }
noncomputable def k199 (P : Params) : Obj := { cls := Value.type "tuple", data := Data.seq #[] }
noncomputable def k201 (P : Params) : Obj := { cls := Value.type "code", data := Data.fields #[Value.str "_law_cell" 456, Value.str "_law_cell" 457, Value.str "/claim/cut.py" 458, Value.int 141 0, Value.int 2 0, Value.int 0 0, Value.int 0 0, Value.int 3 0, Value.ref 196, Value.bool true, Value.int 181 0, Value.ref 197, Value.none, Value.ref 198, Value.ref 199, Value.ref 200, Value.int 461 0, Value.int 141 0, Value.str "/claim/cut.py" 462] }
noncomputable def k202 (P : Params) : Obj := { cls := Value.type "function", data := Data.func { name := "_law_cell", qualname := "_law_cell", params := fps 21, body := FuncBody.stmts (fbd 21), scope := fsc 21, globals := 3, closure := [], defaults := Value.none, kwdefaults := Value.none, pyModule := Value.str "law_nt0635_01" 448, code := Value.ref 201 } }
noncomputable def k203 (P : Params) : Obj := { cls := Value.type "tuple", data := Data.seq #[] }
noncomputable def k205 (P : Params) : Obj := { cls := Value.type "tuple", data := Data.seq #[Value.str "n" 467, Value.str "width" 468, Value.str "whole" 469, Value.str "rest" 470] }
noncomputable def k206 (P : Params) : Obj := { cls := Value.type "tuple", data := Data.seq #[] }
noncomputable def k208 (P : Params) : Obj := { cls := Value.type "code", data := Data.fields #[Value.str "_law_cut" 464, Value.str "_law_cut" 465, Value.str "/claim/cut.py" 466, Value.int 145 0, Value.int 2 0, Value.int 0 0, Value.int 0 0, Value.int 3 0, Value.ref 203, Value.bool true, Value.int 181 0, Value.ref 204, Value.none, Value.ref 205, Value.ref 206, Value.ref 207, Value.int 471 0, Value.int 145 0, Value.str "/claim/cut.py" 472] }
noncomputable def k209 (P : Params) : Obj := { cls := Value.type "function", data := Data.func { name := "_law_cut", qualname := "_law_cut", params := fps 22, body := FuncBody.stmts (fbd 22), scope := fsc 22, globals := 3, closure := [], defaults := Value.none, kwdefaults := Value.none, pyModule := Value.str "law_nt0635_01" 448, code := Value.ref 208 } }
noncomputable def k210 (P : Params) : Obj := { cls := Value.type "tuple", data := Data.seq #[] }
noncomputable def k212 (P : Params) : Obj := { cls := Value.type "tuple", data := Data.seq #[Value.str "n" 477, Value.str "base" 478, Value.str "found" 479] }
noncomputable def k213 (P : Params) : Obj := { cls := Value.type "tuple", data := Data.seq #[] }
noncomputable def k215 (P : Params) : Obj := { cls := Value.type "code", data := Data.fields #[Value.str "_law_digits" 474, Value.str "_law_digits" 475, Value.str "/claim/cut.py" 476, Value.int 149 0, Value.int 2 0, Value.int 0 0, Value.int 0 0, Value.int 3 0, Value.ref 210, Value.bool true, Value.int 181 0, Value.ref 211, Value.none, Value.ref 212, Value.ref 213, Value.ref 214, Value.int 480 0, Value.int 149 0, Value.str "/claim/cut.py" 481] }
noncomputable def k216 (P : Params) : Obj := { cls := Value.type "function", data := Data.func { name := "_law_digits", qualname := "_law_digits", params := fps 23, body := FuncBody.stmts (fbd 23), scope := fsc 23, globals := 3, closure := [], defaults := Value.none, kwdefaults := Value.none, pyModule := Value.str "law_nt0635_01" 448, code := Value.ref 215 } }
noncomputable def k217 (P : Params) : Obj := { cls := Value.type "tuple", data := Data.seq #[] }
noncomputable def k220 (P : Params) : Obj := { cls := Value.type "code", data := Data.fields #[Value.str "_law_octets" 483, Value.str "_law_octets" 484, Value.str "/claim/cut.py" 485, Value.int 155 0, Value.int 2 0, Value.int 0 0, Value.int 0 0, Value.int 3 0, Value.ref 217, Value.bool true, Value.int 181 0, Value.ref 218, Value.none, Value.none, Value.none, Value.ref 219, Value.int 486 0, Value.int 155 0, Value.str "/claim/cut.py" 487] }
noncomputable def k221 (P : Params) : Obj := { cls := Value.type "function", data := Data.func { name := "_law_octets", qualname := "_law_octets", params := fps 24, body := FuncBody.stmts (fbd 24), scope := fsc 24, globals := 3, closure := [], defaults := Value.none, kwdefaults := Value.none, pyModule := Value.str "law_nt0635_01" 448, code := Value.ref 220 } }
noncomputable def k222 (P : Params) : Obj := { cls := Value.type "tuple", data := Data.seq #[] }
noncomputable def k225 (P : Params) : Obj := { cls := Value.type "code", data := Data.fields #[Value.str "_law_capitals" 489, Value.str "_law_capitals" 490, Value.str "/claim/cut.py" 491, Value.int 158 0, Value.int 1 0, Value.int 0 0, Value.int 0 0, Value.int 3 0, Value.ref 222, Value.bool true, Value.int 181 0, Value.ref 223, Value.none, Value.none, Value.none, Value.ref 224, Value.int 492 0, Value.int 158 0, Value.str "/claim/cut.py" 493] }
noncomputable def k226 (P : Params) : Obj := { cls := Value.type "function", data := Data.func { name := "_law_capitals", qualname := "_law_capitals", params := fps 25, body := FuncBody.stmts (fbd 25), scope := fsc 25, globals := 3, closure := [], defaults := Value.none, kwdefaults := Value.none, pyModule := Value.str "law_nt0635_01" 448, code := Value.ref 225 } }
noncomputable def k227 (P : Params) : Obj := { cls := Value.type "tuple", data := Data.seq #[] }
noncomputable def k229 (P : Params) : Obj := { cls := Value.type "tuple", data := Data.seq #[Value.str "octet" 498, Value.str "low" 499] }
noncomputable def k230 (P : Params) : Obj := { cls := Value.type "tuple", data := Data.seq #[] }
noncomputable def k232 (P : Params) : Obj := { cls := Value.type "code", data := Data.fields #[Value.str "_law_sort" 495, Value.str "_law_sort" 496, Value.str "/claim/cut.py" 497, Value.int 160 0, Value.int 1 0, Value.int 0 0, Value.int 0 0, Value.int 3 0, Value.ref 227, Value.bool true, Value.int 181 0, Value.ref 228, Value.none, Value.ref 229, Value.ref 230, Value.ref 231, Value.int 500 0, Value.int 160 0, Value.str "/claim/cut.py" 501] }
noncomputable def k233 (P : Params) : Obj := { cls := Value.type "function", data := Data.func { name := "_law_sort", qualname := "_law_sort", params := fps 26, body := FuncBody.stmts (fbd 26), scope := fsc 26, globals := 3, closure := [], defaults := Value.none, kwdefaults := Value.none, pyModule := Value.str "law_nt0635_01" 448, code := Value.ref 232 } }
noncomputable def k234 (P : Params) : Obj := { cls := Value.type "tuple", data := Data.seq #[] }
noncomputable def k236 (P : Params) : Obj := { cls := Value.type "tuple", data := Data.seq #[Value.str "text" 506, Value.str "at" 507, Value.str "base" 508, Value.str "piece" 509] }
noncomputable def k237 (P : Params) : Obj := { cls := Value.type "tuple", data := Data.seq #[] }
noncomputable def k239 (P : Params) : Obj := { cls := Value.type "code", data := Data.fields #[Value.str "_law_marked" 503, Value.str "_law_marked" 504, Value.str "/claim/cut.py" 505, Value.int 169 0, Value.int 3 0, Value.int 0 0, Value.int 0 0, Value.int 3 0, Value.ref 234, Value.bool true, Value.int 181 0, Value.ref 235, Value.none, Value.ref 236, Value.ref 237, Value.ref 238, Value.int 510 0, Value.int 169 0, Value.str "/claim/cut.py" 511] }
noncomputable def k240 (P : Params) : Obj := { cls := Value.type "function", data := Data.func { name := "_law_marked", qualname := "_law_marked", params := fps 27, body := FuncBody.stmts (fbd 27), scope := fsc 27, globals := 3, closure := [], defaults := Value.none, kwdefaults := Value.none, pyModule := Value.str "law_nt0635_01" 448, code := Value.ref 239 } }
noncomputable def k241 (P : Params) : Obj := { cls := Value.type "tuple", data := Data.seq #[] }
noncomputable def k243 (P : Params) : Obj := { cls := Value.type "tuple", data := Data.seq #[Value.str "text" 516, Value.str "base" 517, Value.str "width" 518, Value.str "state" 519, Value.str "found" 520, Value.str "sign" 521, Value.str "at" 522, Value.str "wide" 523, Value.str "kind" 524, Value.str "worth" 525] }
noncomputable def k244 (P : Params) : Obj := { cls := Value.type "tuple", data := Data.seq #[] }
noncomputable def k246 (P : Params) : Obj := { cls := Value.type "code", data := Data.fields #[Value.str "_law_read" 513, Value.str "_law_read" 514, Value.str "/claim/cut.py" 515, Value.int 174 0, Value.int 3 0, Value.int 0 0, Value.int 0 0, Value.int 3 0, Value.ref 241, Value.bool true, Value.int 181 0, Value.ref 242, Value.none, Value.ref 243, Value.ref 244, Value.ref 245, Value.int 526 0, Value.int 174 0, Value.str "/claim/cut.py" 527] }
noncomputable def k247 (P : Params) : Obj := { cls := Value.type "function", data := Data.func { name := "_law_read", qualname := "_law_read", params := fps 28, body := FuncBody.stmts (fbd 28), scope := fsc 28, globals := 3, closure := [], defaults := Value.none, kwdefaults := Value.none, pyModule := Value.str "law_nt0635_01" 448, code := Value.ref 246 } }
noncomputable def k248 (P : Params) : Obj := { cls := Value.type "tuple", data := Data.seq #[] }
noncomputable def k250 (P : Params) : Obj := { cls := Value.type "tuple", data := Data.seq #[Value.str "a" 532, Value.str "b" 533, Value.str "width" 534, Value.str "found" 535, Value.str "digit" 536] }
noncomputable def k251 (P : Params) : Obj := { cls := Value.type "tuple", data := Data.seq #[] }
noncomputable def k253 (P : Params) : Obj := { cls := Value.type "code", data := Data.fields #[Value.str "_law_power" 529, Value.str "_law_power" 530, Value.str "/claim/cut.py" 531, Value.int 190 0, Value.int 3 0, Value.int 0 0, Value.int 0 0, Value.int 3 0, Value.ref 248, Value.bool true, Value.int 181 0, Value.ref 249, Value.none, Value.ref 250, Value.ref 251, Value.ref 252, Value.int 537 0, Value.int 190 0, Value.str "/claim/cut.py" 538] }
noncomputable def k254 (P : Params) : Obj := { cls := Value.type "function", data := Data.func { name := "_law_power", qualname := "_law_power", params := fps 29, body := FuncBody.stmts (fbd 29), scope := fsc 29, globals := 3, closure := [], defaults := Value.none, kwdefaults := Value.none, pyModule := Value.str "law_nt0635_01" 448, code := Value.ref 253 } }
noncomputable def k255 (P : Params) : Obj := { cls := Value.type "tuple", data := Data.seq #[] }
noncomputable def k257 (P : Params) : Obj := { cls := Value.type "tuple", data := Data.seq #[Value.str "op" 543, Value.str "a" 544, Value.str "b" 545, Value.str "width" 546, Value.str "rest" 547, Value.str "many" 548] }
noncomputable def k258 (P : Params) : Obj := { cls := Value.type "tuple", data := Data.seq #[] }
noncomputable def k260 (P : Params) : Obj := { cls := Value.type "code", data := Data.fields #[Value.str "_law_done" 540, Value.str "_law_done" 541, Value.str "/claim/cut.py" 542, Value.int 196 0, Value.int 4 0, Value.int 0 0, Value.int 0 0, Value.int 3 0, Value.ref 255, Value.bool true, Value.int 181 0, Value.ref 256, Value.none, Value.ref 257, Value.ref 258, Value.ref 259, Value.int 549 0, Value.int 196 0, Value.str "/claim/cut.py" 550] }
noncomputable def k261 (P : Params) : Obj := { cls := Value.type "function", data := Data.func { name := "_law_done", qualname := "_law_done", params := fps 30, body := FuncBody.stmts (fbd 30), scope := fsc 30, globals := 3, closure := [], defaults := Value.none, kwdefaults := Value.none, pyModule := Value.str "law_nt0635_01" 448, code := Value.ref 260 } }
noncomputable def k262 (P : Params) : Obj := { cls := Value.type "tuple", data := Data.seq #[] }
noncomputable def k264 (P : Params) : Obj := { cls := Value.type "tuple", data := Data.seq #[Value.str "op" 555, Value.str "a" 556, Value.str "b" 557, Value.str "limits" 558] }
noncomputable def k265 (P : Params) : Obj := { cls := Value.type "tuple", data := Data.seq #[] }
noncomputable def k267 (P : Params) : Obj := { cls := Value.type "code", data := Data.fields #[Value.str "_law_tried" 552, Value.str "_law_tried" 553, Value.str "/claim/cut.py" 554, Value.int 213 0, Value.int 4 0, Value.int 0 0, Value.int 0 0, Value.int 3 0, Value.ref 262, Value.bool true, Value.int 181 0, Value.ref 263, Value.none, Value.ref 264, Value.ref 265, Value.ref 266, Value.int 559 0, Value.int 213 0, Value.str "/claim/cut.py" 560] }
noncomputable def k268 (P : Params) : Obj := { cls := Value.type "function", data := Data.func { name := "_law_tried", qualname := "_law_tried", params := fps 31, body := FuncBody.stmts (fbd 31), scope := fsc 31, globals := 3, closure := [], defaults := Value.none, kwdefaults := Value.none, pyModule := Value.str "law_nt0635_01" 448, code := Value.ref 267 } }
noncomputable def k269 (P : Params) : Obj := { cls := Value.type "tuple", data := Data.seq #[] }
noncomputable def k271 (P : Params) : Obj := { cls := Value.type "tuple", data := Data.seq #[Value.str "told" 565, Value.str "due" 566] }
noncomputable def k272 (P : Params) : Obj := { cls := Value.type "tuple", data := Data.seq #[] }
noncomputable def k274 (P : Params) : Obj := { cls := Value.type "code", data := Data.fields #[Value.str "_law_like" 562, Value.str "_law_like" 563, Value.str "/claim/cut.py" 564, Value.int 218 0, Value.int 2 0, Value.int 0 0, Value.int 0 0, Value.int 3 0, Value.ref 269, Value.bool true, Value.int 181 0, Value.ref 270, Value.none, Value.ref 271, Value.ref 272, Value.ref 273, Value.int 567 0, Value.int 218 0, Value.str "/claim/cut.py" 568] }
noncomputable def k275 (P : Params) : Obj := { cls := Value.type "function", data := Data.func { name := "_law_like", qualname := "_law_like", params := fps 32, body := FuncBody.stmts (fbd 32), scope := fsc 32, globals := 3, closure := [], defaults := Value.none, kwdefaults := Value.none, pyModule := Value.str "law_nt0635_01" 448, code := Value.ref 274 } }
noncomputable def k276 (P : Params) : Obj := { cls := Value.type "tuple", data := Data.seq #[] }
noncomputable def k279 (P : Params) : Obj := { cls := Value.type "code", data := Data.fields #[Value.str "_law_drawn" 570, Value.str "_law_drawn" 571, Value.str "/claim/cut.py" 572, Value.int 222 0, Value.int 3 0, Value.int 0 0, Value.int 0 0, Value.int 3 0, Value.ref 276, Value.bool true, Value.int 181 0, Value.ref 277, Value.none, Value.none, Value.none, Value.ref 278, Value.int 573 0, Value.int 222 0, Value.str "/claim/cut.py" 574] }
noncomputable def k280 (P : Params) : Obj := { cls := Value.type "function", data := Data.func { name := "_law_drawn", qualname := "_law_drawn", params := fps 33, body := FuncBody.stmts (fbd 33), scope := fsc 33, globals := 3, closure := [], defaults := Value.none, kwdefaults := Value.none, pyModule := Value.str "law_nt0635_01" 448, code := Value.ref 279 } }
noncomputable def k281 (P : Params) : Obj := { cls := Value.type "tuple", data := Data.seq #[] }
noncomputable def k283 (P : Params) : Obj := { cls := Value.type "tuple", data := Data.seq #[Value.str "script" 579, Value.str "at" 580, Value.str "base" 581, Value.str "n" 582, Value.str "limits" 583, Value.str "width" 584, Value.str "wide" 585, Value.str "told" 586, Value.str "text" 587] }
noncomputable def k284 (P : Params) : Obj := { cls := Value.type "tuple", data := Data.seq #[] }
noncomputable def k286 (P : Params) : Obj := { cls := Value.type "code", data := Data.fields #[Value.str "_law_texts_right" 576, Value.str "_law_texts_right" 577, Value.str "/claim/cut.py" 578, Value.int 226 0, Value.int 5 0, Value.int 0 0, Value.int 0 0, Value.int 3 0, Value.ref 281, Value.bool true, Value.int 181 0, Value.ref 282, Value.none, Value.ref 283, Value.ref 284, Value.ref 285, Value.int 588 0, Value.int 226 0, Value.str "/claim/cut.py" 589] }
noncomputable def k287 (P : Params) : Obj := { cls := Value.type "function", data := Data.func { name := "_law_texts_right", qualname := "_law_texts_right", params := fps 34, body := FuncBody.stmts (fbd 34), scope := fsc 34, globals := 3, closure := [], defaults := Value.none, kwdefaults := Value.none, pyModule := Value.str "law_nt0635_01" 448, code := Value.ref 286 } }
noncomputable def k288 (P : Params) : Obj := { cls := Value.type "tuple", data := Data.seq #[] }
noncomputable def k290 (P : Params) : Obj := { cls := Value.type "tuple", data := Data.seq #[Value.str "a" 594, Value.str "b" 595, Value.str "c" 596, Value.str "width" 597, Value.str "limits" 598, Value.str "x" 599, Value.str "y" 600, Value.str "rest" 601, Value.str "many" 602] }
noncomputable def k291 (P : Params) : Obj := { cls := Value.type "tuple", data := Data.seq #[] }
noncomputable def k293 (P : Params) : Obj := { cls := Value.type "code", data := Data.fields #[Value.str "_law_rings_right" 591, Value.str "_law_rings_right" 592, Value.str "/claim/cut.py" 593, Value.int 235 0, Value.int 5 0, Value.int 0 0, Value.int 0 0, Value.int 3 0, Value.ref 288, Value.bool true, Value.int 181 0, Value.ref 289, Value.none, Value.ref 290, Value.ref 291, Value.ref 292, Value.int 603 0, Value.int 235 0, Value.str "/claim/cut.py" 604] }
noncomputable def k294 (P : Params) : Obj := { cls := Value.type "function", data := Data.func { name := "_law_rings_right", qualname := "_law_rings_right", params := fps 35, body := FuncBody.stmts (fbd 35), scope := fsc 35, globals := 3, closure := [], defaults := Value.none, kwdefaults := Value.none, pyModule := Value.str "law_nt0635_01" 448, code := Value.ref 293 } }
noncomputable def k295 (P : Params) : Obj := { cls := Value.type "tuple", data := Data.seq #[] }
noncomputable def k297 (P : Params) : Obj := { cls := Value.type "tuple", data := Data.seq #[Value.str "n" 609, Value.str "told" 610, Value.str "bits" 611] }
noncomputable def k298 (P : Params) : Obj := { cls := Value.type "tuple", data := Data.seq #[] }
noncomputable def k300 (P : Params) : Obj := { cls := Value.type "code", data := Data.fields #[Value.str "_law_sizes_right" 606, Value.str "_law_sizes_right" 607, Value.str "/claim/cut.py" 608, Value.int 247 0, Value.int 1 0, Value.int 0 0, Value.int 0 0, Value.int 3 0, Value.ref 295, Value.bool true, Value.int 181 0, Value.ref 296, Value.none, Value.ref 297, Value.ref 298, Value.ref 299, Value.int 612 0, Value.int 247 0, Value.str "/claim/cut.py" 613] }
noncomputable def k301 (P : Params) : Obj := { cls := Value.type "function", data := Data.func { name := "_law_sizes_right", qualname := "_law_sizes_right", params := fps 36, body := FuncBody.stmts (fbd 36), scope := fsc 36, globals := 3, closure := [], defaults := Value.none, kwdefaults := Value.none, pyModule := Value.str "law_nt0635_01" 448, code := Value.ref 300 } }
noncomputable def k302 (P : Params) : Obj := { cls := Value.type "tuple", data := Data.seq #[] }
noncomputable def k304 (P : Params) : Obj := { cls := Value.type "tuple", data := Data.seq #[Value.str "script" 618, Value.str "width" 619, Value.str "limits" 620, Value.str "turn" 621, Value.str "told" 622, Value.str "base" 623, Value.str "a" 624, Value.str "b" 625, Value.str "here" 626, Value.str "there" 627, Value.str "op" 628] }
noncomputable def k305 (P : Params) : Obj := { cls := Value.type "tuple", data := Data.seq #[] }
noncomputable def k307 (P : Params) : Obj := { cls := Value.type "code", data := Data.fields #[Value.str "law" 615, Value.str "law" 616, Value.str "/claim/cut.py" 617, Value.int 255 0, Value.int 1 0, Value.int 0 0, Value.int 0 0, Value.int 3 0, Value.ref 302, Value.bool true, Value.int 181 0, Value.ref 303, Value.none, Value.ref 304, Value.ref 305, Value.ref 306, Value.int 629 0, Value.int 255 0, Value.str "/claim/cut.py" 630] }
noncomputable def k308 (P : Params) : Obj := { cls := Value.type "function", data := Data.func { name := "law", qualname := "law", params := fps 37, body := FuncBody.stmts (fbd 37), scope := fsc 37, globals := 3, closure := [], defaults := Value.none, kwdefaults := Value.none, pyModule := Value.str "law_nt0635_01" 448, code := Value.ref 307 } }
noncomputable def KF (P : Params) : Frag := [(2, k2 P), (3, k3 P), (22, k22 P), (23, k23 P), (25, k25 P), (26, k26 P), (28, k28 P), (29, k29 P), (30, k30 P), (32, k32 P), (33, k33 P), (35, k35 P), (36, k36 P), (37, k37 P), (39, k39 P), (40, k40 P), (42, k42 P), (43, k43 P), (44, k44 P), (45, k45 P), (46, k46 P), (47, k47 P), (48, k48 P), (51, k51 P), (58, k58 P), (60, k60 P), (61, k61 P), (63, k63 P), (64, k64 P), (65, k65 P), (66, k66 P), (67, k67 P), (68, k68 P), (71, k71 P), (78, k78 P), (80, k80 P), (81, k81 P), (83, k83 P), (84, k84 P), (85, k85 P), (86, k86 P), (87, k87 P), (88, k88 P), (91, k91 P), (93, k93 P), (94, k94 P), (96, k96 P), (97, k97 P), (98, k98 P), (100, k100 P), (101, k101 P), (103, k103 P), (104, k104 P), (105, k105 P), (107, k107 P), (108, k108 P), (110, k110 P), (111, k111 P), (112, k112 P), (114, k114 P), (115, k115 P), (117, k117 P), (118, k118 P), (119, k119 P), (121, k121 P), (122, k122 P), (124, k124 P), (125, k125 P), (126, k126 P), (128, k128 P), (129, k129 P), (131, k131 P), (132, k132 P), (133, k133 P), (135, k135 P), (136, k136 P), (138, k138 P), (139, k139 P), (140, k140 P), (142, k142 P), (143, k143 P), (145, k145 P), (146, k146 P), (147, k147 P), (149, k149 P), (150, k150 P), (152, k152 P), (153, k153 P), (154, k154 P), (156, k156 P), (157, k157 P), (159, k159 P), (160, k160 P), (161, k161 P), (163, k163 P), (164, k164 P), (166, k166 P), (167, k167 P), (168, k168 P), (170, k170 P), (171, k171 P), (173, k173 P), (174, k174 P), (175, k175 P), (177, k177 P), (178, k178 P), (180, k180 P), (181, k181 P), (182, k182 P), (184, k184 P), (185, k185 P), (187, k187 P), (188, k188 P), (189, k189 P), (191, k191 P), (192, k192 P), (194, k194 P), (195, k195 P), (196, k196 P), (198, k198 P), (199, k199 P), (201, k201 P), (202, k202 P), (203, k203 P), (205, k205 P), (206, k206 P), (208, k208 P), (209, k209 P), (210, k210 P), (212, k212 P), (213, k213 P), (215, k215 P), (216, k216 P), (217, k217 P), (220, k220 P), (221, k221 P), (222, k222 P), (225, k225 P), (226, k226 P), (227, k227 P), (229, k229 P), (230, k230 P), (232, k232 P), (233, k233 P), (234, k234 P), (236, k236 P), (237, k237 P), (239, k239 P), (240, k240 P), (241, k241 P), (243, k243 P), (244, k244 P), (246, k246 P), (247, k247 P), (248, k248 P), (250, k250 P), (251, k251 P), (253, k253 P), (254, k254 P), (255, k255 P), (257, k257 P), (258, k258 P), (260, k260 P), (261, k261 P), (262, k262 P), (264, k264 P), (265, k265 P), (267, k267 P), (268, k268 P), (269, k269 P), (271, k271 P), (272, k272 P), (274, k274 P), (275, k275 P), (276, k276 P), (279, k279 P), (280, k280 P), (281, k281 P), (283, k283 P), (284, k284 P), (286, k286 P), (287, k287 P), (288, k288 P), (290, k290 P), (291, k291 P), (293, k293 P), (294, k294 P), (295, k295 P), (297, k297 P), (298, k298 P), (300, k300 P), (301, k301 P), (302, k302 P), (304, k304 P), (305, k305 P), (307, k307 P), (308, k308 P)]
noncomputable def kAs : List Addr := [2, 3, 22, 23, 25, 26, 28, 29, 30, 32, 33, 35, 36, 37, 39, 40, 42, 43, 44, 45, 46, 47, 48, 51, 58, 60, 61, 63, 64, 65, 66, 67, 68, 71, 78, 80, 81, 83, 84, 85, 86, 87, 88, 91, 93, 94, 96, 97, 98, 100, 101, 103, 104, 105, 107, 108, 110, 111, 112, 114, 115, 117, 118, 119, 121, 122, 124, 125, 126, 128, 129, 131, 132, 133, 135, 136, 138, 139, 140, 142, 143, 145, 146, 147, 149, 150, 152, 153, 154, 156, 157, 159, 160, 161, 163, 164, 166, 167, 168, 170, 171, 173, 174, 175, 177, 178, 180, 181, 182, 184, 185, 187, 188, 189, 191, 192, 194, 195, 196, 198, 199, 201, 202, 203, 205, 206, 208, 209, 210, 212, 213, 215, 216, 217, 220, 221, 222, 225, 226, 227, 229, 230, 232, 233, 234, 236, 237, 239, 240, 241, 243, 244, 246, 247, 248, 250, 251, 253, 254, 255, 257, 258, 260, 261, 262, 264, 265, 267, 268, 269, 271, 272, 274, 275, 276, 279, 280, 281, 283, 284, 286, 287, 288, 290, 291, 293, 294, 295, 297, 298, 300, 301, 302, 304, 305, 307, 308]
noncomputable def QW : Program := { PW with main := { PW.main with body := (PW.main.body.eraseIdx 19).eraseIdx 0 } }
noncomputable abbrev HKk : Hook := kHook KF kAs (fun _ => rfl)

/-- values, without tokens and addresses -/
inductive V where
  | none | bool (b : Bool) | int (i : Int) | str (s : Str) | bytes (l : List Int) | pair (a b : V) | tri (a b c : List Int) | lim (w : Int) | lst (l : List Int) | own (l : List Int) | seq (l : List (List Int)) | rng (n : Nat)

noncomputable abbrev tupO (vs : List Value) : Obj := { cls := .type "tuple", data := .seq vs.toArray }
noncomputable abbrev lisO (vs : List Value) (n : Nat) : Obj := { cls := .type "list", data := .seq vs.toArray n }
noncomputable abbrev rngO (n : Nat) (t u v : Tok) : Obj := { cls := .type "range", data := .fields #[.int 0 t, .int n u, .int 1 v] }
/-- the class Limits -/
noncomputable abbrev limA : Addr := 46

noncomputable section
noncomputable def isY (l : List Int) (v : Value) : Prop := ∃ b t, v = .bytes b t ∧ KBw.bInts b = l
noncomputable def isYs (ls : List (List Int)) : List Value → Prop := List.rec (motive := fun _ => List Value → Prop) (fun vs => vs = []) (fun l _ ih vs => ∃ v r, vs = v :: r ∧ isY l v ∧ ih r) ls
noncomputable def R (h₀ : Heap) (news : List (Addr × Obj)) (v : Value) (x : V) : Prop :=
  V.rec (motive := fun _ => Value → Prop) (fun v => v = .none) (fun b v => v = .bool b) (fun i v => ∃ t, v = .int i t) (fun s v => ∃ t, v = .str s t) isY
    (fun _ _ r1 r2 v => ∃ a x y, v = .ref a ∧ (a, tupO [x, y]) ∈ news ∧ r1 x ∧ r2 y) (fun p q r v => ∃ a vs, v = .ref a ∧ (a, tupO vs) ∈ news ∧ isYs [p, q, r] vs)
    (fun w v => ∃ x dx es n t, v = .ref x ∧ (x, instObj limA dx) ∈ news ∧ (dx, dictOf es n) ∈ news ∧ getL "width" es = some (some (.int w t)))
    (fun ns v => ∃ l vs, v = .ref l ∧ h₀.IsList l vs.toArray ∧ IntsAre vs ns) (fun ns v => ∃ l vs n, v = .ref l ∧ (l, lisO vs n) ∈ news ∧ IntsAre vs ns)
    (fun ls v => ∃ l vs n, v = .ref l ∧ (l, lisO vs n) ∈ news ∧ isYs ls vs) (fun n v => n ≤ 1000000 ∧ ∃ a t u w, v = .ref a ∧ (a, rngO n t u w) ∈ news) x v

/-- what no loop turns: no iterator -/
noncomputable def okO (o : Obj) : Bool := match o.cls with
  | .type n => !(n == "list_iterator" || n == "tuple_iterator" || n == "range_iterator")
  | _ => true

theorem R.move {h h' : Heap} {news news' : List (Addr × Obj)} (hk : ∀ b o, h.get? b = some o → h'.get? b = some o) (hn : ∀ p ∈ news, okO p.2 = true → p ∈ news') {x : V} : ∀ {v : Value}, R h news v x → R h' news' v x := by
  induction x with
  | pair a b iha ihb => intro v q; obtain ⟨a, x, y, e, m, r1, r2⟩ := q; exact ⟨a, x, y, e, hn _ m rfl, iha r1, ihb r2⟩
  | tri a b c => intro v q; obtain ⟨a, vs, e, m, r⟩ := q; exact ⟨a, vs, e, hn _ m rfl, r⟩
  | lim w => intro v q; obtain ⟨x, dx, es, n, t, e, m, m', r⟩ := q; exact ⟨x, dx, es, n, t, e, hn _ m rfl, hn _ m' rfl, r⟩
  | lst l => intro v q; obtain ⟨l, vs, e, ⟨o, ho, q⟩, hi⟩ := q; exact ⟨l, vs, e, ⟨o, hk _ o ho, q⟩, hi⟩
  | own l => intro v q; obtain ⟨a, vs, n, e, m, r⟩ := q; exact ⟨a, vs, n, e, hn _ m rfl, r⟩
  | seq l => intro v q; obtain ⟨a, vs, n, e, m, r⟩ := q; exact ⟨a, vs, n, e, hn _ m rfl, r⟩
  | rng n => intro v q; obtain ⟨l, a, t, u, w, e, m⟩ := q; exact ⟨l, a, t, u, w, e, hn _ m rfl⟩
  | _ => exact fun r => r
theorem R.mono {h h' : Heap} {news news' : List (Addr × Obj)} (hk : ∀ b o, h.get? b = some o → h'.get? b = some o) (hn : ∀ p ∈ news, p ∈ news') {x : V} {v : Value} (r : R h news v x) : R h' news' v x := R.move hk (fun p q _ => hn p q) r
/-- a pair's parts are no lists of the caller's -/
noncomputable def V.fine (x : V) : Bool := V.rec (motive := fun _ => Bool) true (fun _ => true) (fun _ => true) (fun _ => true) (fun _ => true) (fun _ _ a b => a && b) (fun _ _ _ => true) (fun _ => true) (fun _ => false) (fun _ => true) (fun _ => true) (fun _ => true) x
theorem R.plain {h h' : Heap} {news : List (Addr × Obj)} {x : V} : ∀ {v : Value}, x.fine = true → R h news v x → R h' news v x := by
  induction x with
  | pair a b iha ihb => intro v hp q; obtain ⟨a, x, y, e, m, r1, r2⟩ := q; exact ⟨a, x, y, e, m, iha (Bool.and_eq_true_iff.mp hp).1 r1, ihb (Bool.and_eq_true_iff.mp hp).2 r2⟩
  | lst l => exact fun hp => Bool.noConfusion hp
  | _ => exact fun _ r => r

noncomputable def RL (h₀ : Heap) (news : List (Addr × Obj)) (xs : List V) : List Value → Prop :=
  List.rec (motive := fun _ => List Value → Prop) (fun vs => vs = []) (fun x _ ih vs => ∃ v r, vs = v :: r ∧ R h₀ news v x ∧ ih r) xs
theorem RL.len {h : Heap} {news : List (Addr × Obj)} {xs : List V} : ∀ {vs : List Value}, RL h news xs vs → vs.length = xs.length := by
  induction xs with
  | nil => intro vs e; exact congrArg List.length e
  | cons x r ih => intro vs q; obtain ⟨v, w, e, _, q⟩ := q; exact e ▸ congrArg (· + 1) (ih q)

noncomputable abbrev Rho := List (Str × Option V)
noncomputable def lkp (ρ : Rho) (x : Str) : Option V := List.rec none (fun p _ ih => if x = p.1 then p.2 else ih) ρ
noncomputable def put (ρ : Rho) (x : Str) (u : V) : Rho := List.rec [] (fun p r ih => if x = p.1 then (p.1, some u) :: r else p :: ih) ρ
noncomputable def has (ρ : Rho) (x : Str) : Bool := List.rec false (fun p _ ih => if x = p.1 then true else ih) ρ
theorem put_yes {p : Str × Option V} {r : Rho} {x : Str} {u : V} (h : x = p.1) : put (p :: r) x u = (p.1, some u) :: r := if_pos h
theorem put_no {p : Str × Option V} {r : Rho} {x : Str} {u : V} (h : ¬ x = p.1) : put (p :: r) x u = p :: put r x u := if_neg h
theorem lkp_yes {p : Str × Option V} {r : Rho} {x : Str} (h : x = p.1) : lkp (p :: r) x = p.2 := if_pos h
theorem lkp_no {p : Str × Option V} {r : Rho} {x : Str} (h : ¬ x = p.1) : lkp (p :: r) x = lkp r x := if_neg h
theorem has_yes {p : Str × Option V} {r : Rho} {x : Str} (h : x = p.1) : has (p :: r) x = true := if_pos h
theorem has_no {p : Str × Option V} {r : Rho} {x : Str} (h : ¬ x = p.1) : has (p :: r) x = has r x := if_neg h

theorem put_keys {x : Str} {u : V} {ρ : Rho} : (put ρ x u).map (·.1) = ρ.map (·.1) := by
  induction ρ with
  | nil => rfl
  | cons p r ih => exact (Decidable.em (x = p.1)).elim (fun h => by rw [put_yes h]; rfl) fun h => by rw [put_no h]; exact congrArg (p.1 :: ·) ih
theorem has_mem {x : Str} {ρ : Rho} (e : has ρ x = true) : x ∈ ρ.map (·.1) := by
  induction ρ with
  | nil => exact Bool.noConfusion e
  | cons p r ih => exact (Decidable.em (x = p.1)).elim (fun h => h ▸ .head _) fun h => .tail _ (ih ((has_no h).symm.trans e))
theorem lkp_mem {x : Str} {v : V} {ρ : Rho} (e : lkp ρ x = some v) : x ∈ ρ.map (·.1) := by
  induction ρ with
  | nil => exact (nomatch (show none = some _ from e))
  | cons p r ih => exact (Decidable.em (x = p.1)).elim (fun h => h ▸ .head _) fun h => .tail _ (ih ((lkp_no h).symm.trans e))
theorem lkp_put {x y : Str} {u v : V} {ρ : Rho} (e : lkp (put ρ x u) y = some v) : (y = x ∧ v = u) ∨ (y ≠ x ∧ lkp ρ y = some v) := by
  induction ρ with
  | nil => exact (nomatch (show none = some _ from e))
  | cons p r ih =>
    exact (Decidable.em (x = p.1)).elim (fun h => (Decidable.em (y = p.1)).elim (fun hy => .inl ⟨hy.trans h.symm, by rw [put_yes h, lkp_yes (p := (p.1, some u)) hy] at e; exact (Option.some.inj e).symm⟩)
        fun hy => .inr ⟨fun q => hy (q.trans h), by rw [put_yes h, lkp_no (p := (p.1, some u)) hy] at e; exact (lkp_no hy).trans e⟩)
      fun h => (Decidable.em (y = p.1)).elim (fun hy => .inr ⟨fun q => h (q.symm.trans hy), by rw [put_no h, lkp_yes hy] at e; exact (lkp_yes hy).trans e⟩)
        fun hy => by rw [put_no h, lkp_no hy] at e; exact (ih e).imp id fun q => ⟨q.1, (lkp_no hy).trans q.2⟩
theorem has_put {x y : Str} {u : V} {ρ : Rho} (e : has ρ y = true) : has (put ρ x u) y = true := by
  induction ρ with
  | nil => exact Bool.noConfusion e
  | cons p r ih =>
    exact (Decidable.em (y = p.1)).elim (fun hy => (Decidable.em (x = p.1)).elim (fun h => by rw [put_yes h]; exact has_yes hy) fun h => by rw [put_no h]; exact has_yes hy)
      fun hy => (Decidable.em (x = p.1)).elim (fun h => by rw [put_yes h]; exact (has_no hy).trans ((has_no hy).symm.trans e)) fun h => by rw [put_no h]; exact (has_no hy).trans (ih ((has_no hy).symm.trans e))
theorem put_comm {x y : Str} {u v : V} (h : ¬ x = y) {ρ : Rho} : put (put ρ x u) y v = put (put ρ y v) x u := by
  induction ρ with
  | nil => rfl
  | cons p r ih =>
    exact (Decidable.em (x = p.1)).elim (fun hx => have hy : ¬ y = p.1 := fun hy => h (hx.trans hy.symm); by rw [put_yes hx, put_no (p := (p.1, some u)) hy, put_no hy, put_yes hx])
      fun hx => (Decidable.em (y = p.1)).elim (fun hy => by rw [put_yes hy, put_no (p := (p.1, some v)) hx, put_no hx, put_yes hy]) fun hy => by rw [put_no hx, put_no hy, put_no hy, put_no hx, ih]

structure Fn where
  name : Str
  spec : List V → V → Prop
noncomputable def lkf (G : List Fn) (x : Str) : Option (List V → V → Prop) := List.rec none (fun f _ ih => if x = f.name then some f.spec else ih) G
theorem lkf_mem {x : Str} {sp : List V → V → Prop} {G : List Fn} (e : lkf G x = some sp) : ∃ f ∈ G, f.name = x ∧ f.spec = sp := by
  induction G with
  | nil => exact (nomatch (show none = some _ from e))
  | cons f r ih =>
    exact (Decidable.em (x = f.name)).elim (fun h => ⟨f, .head _, h.symm, Option.some.inj ((if_pos h).symm.trans e)⟩)
      fun h => have ⟨f', hm, q⟩ := ih ((if_neg h).symm.trans e); ⟨f', .tail _ hm, q⟩

structure Tb where
  fns : List Fn
  cons : List (Str × V)
  orc : List (Expr × (Rho → V → Prop))
noncomputable def lkc (C : List (Str × V)) (x : Str) : Option V := List.rec none (fun p _ ih => if x = p.1 then some p.2 else ih) C
theorem lkc_mem {x : Str} {v : V} {C : List (Str × V)} (e : lkc C x = some v) : (x, v) ∈ C := by
  induction C with
  | nil => exact (nomatch (show none = some _ from e))
  | cons p r ih =>
    exact (Decidable.em (x = p.1)).elim (fun h => by have := Option.some.inj ((if_pos h).symm.trans e); subst h; subst this; exact .head _)
      fun h => .tail _ (ih ((if_neg h).symm.trans e))

/-- the size that no int of these walks reaches -/
@[irreducible] def Big : Nat := 2 ^ 3000

noncomputable def opI (a b : Int) (P : V → Prop) (o : Operator) : Prop := (PySem.Operator.casesOn (motive := fun _ => Prop) o (P (.int (a + b))) (P (.int (a - b))) ((a.natAbs < Big ∧ b.natAbs < Big) ∧ P (.int (a * b))) (False) (False) (b ≠ 0 ∧ P (.int (a.fmod b))) ((a.natAbs < Big ∧ 0 ≤ b ∧ b ≤ 1000) ∧ P (.int (a ^ b.toNat))) ((a.natAbs < Big ∧ 0 ≤ b ∧ b ≤ 1000) ∧ P (.int (a * 2 ^ b.toNat))) (0 ≤ b ∧ P (.int (a / 2 ^ b.toNat))) (P (.int (Builtin.bitOr a b))) (False) (P (.int (Builtin.bitAnd a b))) ((0 < b ∧ b.natAbs < Big) ∧ P (.int (a / b))))
noncomputable def opY (a b : List Int) (P : V → Prop) (o : Operator) : Prop := (PySem.Operator.casesOn (motive := fun _ => Prop) o (a.length + b.length ≤ 1000000 ∧ P (.bytes (a ++ b))) (False) (False) (False) (False) (False) (False) (False) (False) (False) (False) (False) (False))
noncomputable def opP (o : Operator) (a b : V) (P : V → Prop) : Prop := (V.casesOn (motive := fun _ => Prop) a (False) (fun _ => False) (fun a => (V.casesOn (motive := fun _ => Prop) b (False) (fun _ => False) (fun b => opI a b P o) (fun _ => False) (fun _ => False) (fun _ _ => False) (fun _ _ _ => False) (fun _ => False) (fun _ => False) (fun _ => False) (fun _ => False) (fun _ => False))) (fun _ => False) (fun a => (V.casesOn (motive := fun _ => Prop) b (False) (fun _ => False) (fun _ => False) (fun _ => False) (fun b => opY a b P o) (fun _ _ => False) (fun _ _ _ => False) (fun _ => False) (fun _ => False) (fun _ => False) (fun _ => False) (fun _ => False))) (fun _ _ => False) (fun _ _ _ => False) (fun _ => False) (fun _ => False) (fun _ => False) (fun _ => False) (fun _ => False))
noncomputable def cmpI (a b : Int) (P : Bool → Prop) (o : CmpOp) : Prop := (PySem.CmpOp.casesOn (motive := fun _ => Prop) o (((a = b → P true) ∧ (a ≠ b → P false))) (((a ≠ b → P true) ∧ (a = b → P false))) (((a < b → P true) ∧ (¬ a < b → P false))) (((a ≤ b → P true) ∧ (¬ a ≤ b → P false))) (((b < a → P true) ∧ (¬ b < a → P false))) (((b ≤ a → P true) ∧ (¬ b ≤ a → P false))) (False) (False) (False) (False))
noncomputable def cmpT (a b : Str) (P : Bool → Prop) (o : CmpOp) : Prop := (PySem.CmpOp.casesOn (motive := fun _ => Prop) o (((a = b → P true) ∧ (¬ a = b → P false))) (((¬ a = b → P true) ∧ (a = b → P false))) (False) (False) (False) (False) (False) (False) (False) (False))
noncomputable def cmpY (a b : List Int) (P : Bool → Prop) (o : CmpOp) : Prop := (PySem.CmpOp.casesOn (motive := fun _ => Prop) o (((a = b → P true) ∧ (a ≠ b → P false))) (((a ≠ b → P true) ∧ (a = b → P false))) (False) (False) (False) (False) (False) (False) (False) (False))
/-- an int with None, or None with None -/
noncomputable def cmpN (y : Bool) (P : Bool → Prop) (o : CmpOp) : Prop := (PySem.CmpOp.casesOn (motive := fun _ => Prop) o (False) (False) (False) (False) (False) (False) (P y) (P (!y)) (False) (False))
noncomputable def cmpIn (a : Int) (l : List Int) (P : Bool → Prop) (o : CmpOp) : Prop := (PySem.CmpOp.casesOn (motive := fun _ => Prop) o (False) (False) (False) (False) (False) (False) (False) (False) ((0 ≤ a ∧ a < 256) ∧ ((a ∈ l → P true) ∧ (a ∉ l → P false))) (False))
noncomputable def cmpB (a b : Bool) (P : Bool → Prop) (o : CmpOp) : Prop := (PySem.CmpOp.casesOn (motive := fun _ => Prop) o (P (a == b)) (P (a != b)) (False) (False) (False) (False) (False) (False) (False) (False))
/-- a list and the empty list -/
noncomputable def cmpO (a b : List Int) (P : Bool → Prop) (o : CmpOp) : Prop := (PySem.CmpOp.casesOn (motive := fun _ => Prop) o (b = [] ∧ ((a = [] → P true) ∧ (a ≠ [] → P false))) (False) (False) (False) (False) (False) (False) (False) (False) (False))
noncomputable def cmpP (o : CmpOp) (a b : V) (P : Bool → Prop) : Prop := (V.casesOn (motive := fun _ => Prop) a ((V.casesOn (motive := fun _ => Prop) b (cmpN true P o) (fun _ => False) (fun _ => False) (fun _ => False) (fun _ => False) (fun _ _ => False) (fun _ _ _ => False) (fun _ => False) (fun _ => False) (fun _ => False) (fun _ => False) (fun _ => False))) (fun a => (V.casesOn (motive := fun _ => Prop) b (False) (fun b => cmpB a b P o) (fun _ => False) (fun _ => False) (fun _ => False) (fun _ _ => False) (fun _ _ _ => False) (fun _ => False) (fun _ => False) (fun _ => False) (fun _ => False) (fun _ => False))) (fun a => (V.casesOn (motive := fun _ => Prop) b (cmpN false P o) (fun _ => False) (fun b => cmpI a b P o) (fun _ => False) (fun l => cmpIn a l P o) (fun _ _ => False) (fun _ _ _ => False) (fun _ => False) (fun _ => False) (fun _ => False) (fun _ => False) (fun _ => False))) (fun a => (V.casesOn (motive := fun _ => Prop) b (False) (fun _ => False) (fun _ => False) (fun b => cmpT a b P o) (fun _ => False) (fun _ _ => False) (fun _ _ _ => False) (fun _ => False) (fun _ => False) (fun _ => False) (fun _ => False) (fun _ => False))) (fun a => (V.casesOn (motive := fun _ => Prop) b (False) (fun _ => False) (fun _ => False) (fun _ => False) (fun b => cmpY a b P o) (fun _ _ => False) (fun _ _ _ => False) (fun _ => False) (fun _ => False) (fun _ => False) (fun _ => False) (fun _ => False))) (fun _ _ => False) (fun _ _ _ => False) (fun _ => False) (fun _ => False) (fun a => (V.casesOn (motive := fun _ => Prop) b (False) (fun _ => False) (fun _ => False) (fun _ => False) (fun _ => False) (fun _ _ => False) (fun _ _ _ => False) (fun _ => False) (fun _ => False) (fun b => cmpO a b P o) (fun _ => False) (fun _ => False))) (fun _ => False) (fun _ => False))
noncomputable def vInts (l : List V) : Option (List Int) := List.rec (some []) (fun x _ ih => (V.casesOn (motive := fun _ => Option (List Int)) x (none) (fun _ => none) (fun i => ih.map (i :: ·)) (fun _ => none) (fun _ => none) (fun _ _ => none) (fun _ _ _ => none) (fun _ => none) (fun _ => none) (fun _ => none) (fun _ => none) (fun _ => none))) l
noncomputable def vStrs (l : List V) : Option (List Str) := List.rec (some []) (fun x _ ih => (V.casesOn (motive := fun _ => Option (List Str)) x (none) (fun _ => none) (fun _ => none) (fun i => ih.map (i :: ·)) (fun _ => none) (fun _ _ => none) (fun _ _ _ => none) (fun _ => none) (fun _ => none) (fun _ => none) (fun _ => none) (fun _ => none))) l
noncomputable def inI (a : Int) (P : Bool → Prop) (l : List Int) (o : CmpOp) : Prop := (PySem.CmpOp.casesOn (motive := fun _ => Prop) o (False) (False) (False) (False) (False) (False) (False) (False) (((a ∈ l → P true) ∧ (a ∉ l → P false))) (((a ∉ l → P true) ∧ (a ∈ l → P false))))
noncomputable def inT (a : Str) (P : Bool → Prop) (l : List Str) (o : CmpOp) : Prop := (PySem.CmpOp.casesOn (motive := fun _ => Prop) o (False) (False) (False) (False) (False) (False) (False) (False) (((a ∈ l → P true) ∧ (a ∉ l → P false))) (False))
noncomputable def vBys (l : List V) : Option (List (List Int)) := List.rec (some []) (fun x _ ih => (V.casesOn (motive := fun _ => Option (List (List Int))) x (none) (fun _ => none) (fun _ => none) (fun _ => none) (fun i => ih.map (i :: ·)) (fun _ _ => none) (fun _ _ _ => none) (fun _ => none) (fun _ => none) (fun _ => none) (fun _ => none) (fun _ => none))) l
noncomputable def inB (a : List Int) (P : Bool → Prop) (l : List (List Int)) (o : CmpOp) : Prop := (PySem.CmpOp.casesOn (motive := fun _ => Prop) o (False) (False) (False) (False) (False) (False) (False) (False) (((a ∈ l → P true) ∧ (a ∉ l → P false))) (False))
noncomputable def inP (o : CmpOp) (a : V) (vs : List V) (P : Bool → Prop) : Prop := (V.casesOn (motive := fun _ => Prop) a (False) (fun _ => False) (fun a => (Option.casesOn (motive := fun _ => Prop) (vInts vs) (False) (fun l => inI a P l o))) (fun a => (Option.casesOn (motive := fun _ => Prop) (vStrs vs) (False) (fun l => inT a P l o))) (fun a => (Option.casesOn (motive := fun _ => Prop) (vBys vs) (False) (fun l => inB a P l o))) (fun _ _ => False) (fun _ _ _ => False) (fun _ => False) (fun _ => False) (fun _ => False) (fun _ => False) (fun _ => False))
noncomputable def subY (l : List Int) (k : Int) (P : V → Prop) : Prop := ((0 ≤ k ∧ k < (l.length : Int)) ∧ l.length ≤ 1000000) ∧ (0 ≤ l.getD k.toNat 0 ∧ l.getD k.toNat 0 < 256 → P (.int (l.getD k.toNat 0)))
noncomputable def subQ (x y : V) (k : Int) (P : V → Prop) : Prop := (Bool.casesOn (motive := fun _ => Prop) (decide (k = 0)) ((Bool.casesOn (motive := fun _ => Prop) (decide (k = 1)) (False) (P y))) (P x))
noncomputable def subL (l : List Int) (k : Int) (P : V → Prop) : Prop := ((0 ≤ k ∧ k < (l.length : Int)) ∧ l.length ≤ 1000000) ∧ P (.int (l.getD k.toNat 0))
noncomputable def subP (a b : V) (P : V → Prop) : Prop := (V.casesOn (motive := fun _ => Prop) b (False) (fun _ => False) (fun k => (V.casesOn (motive := fun _ => Prop) a (False) (fun _ => False) (fun _ => False) (fun _ => False) (fun l => subY l k P) (fun x y => subQ x y k P) (fun _ _ _ => False) (fun _ => False) (fun l => subL l k P) (fun l => subL l k P) (fun _ => False) (fun _ => False))) (fun _ => False) (fun _ => False) (fun _ _ => False) (fun _ _ _ => False) (fun _ => False) (fun _ => False) (fun _ => False) (fun _ => False) (fun _ => False))
/-- neither a slice nor starred nor a comprehension -/
noncomputable def plainE (e : Expr) : Bool := (PySem.Expr.casesOn (motive_1 := fun _ => Bool) e (fun _ _ _ => true) (fun _ _ _ => false) (fun _ _ _ _ => true) (fun _ _ _ => true) (fun _ _ _ _ => false) (fun _ _ _ _ => true) (fun _ _ _ => false) (fun _ _ _ => false) (fun _ _ _ _ => false) (fun _ _ _ _ => false) (fun _ _ _ _ _ => false) (fun _ _ _ _ => false) (fun _ _ => false) (fun _ _ => false) (fun _ _ => false) (fun _ _ _ _ => true) (fun _ _ _ _ => true) (fun _ _ _ _ => false) (fun _ _ => false) (fun _ _ _ => true) (fun _ _ _ => true) (fun _ _ _ => true) (fun _ _ => false) (fun _ _ => true) (fun _ _ => false) (fun _ _ _ => true) (fun _ _ _ _ => false))
/-- what stands as an argument -/
noncomputable def argE (e : Expr) : Bool := (PySem.Expr.casesOn (motive_1 := fun _ => Bool) e (fun _ _ _ => true) (fun _ _ _ => false) (fun _ _ _ _ => true) (fun _ _ _ => true) (fun _ _ _ _ => false) (fun _ _ _ _ => true) (fun _ _ _ => false) (fun _ _ _ => false) (fun _ _ _ _ => true) (fun _ _ _ _ => false) (fun _ _ _ _ _ => false) (fun _ _ _ _ => false) (fun _ _ => false) (fun _ _ => false) (fun _ _ => false) (fun _ _ _ _ => true) (fun _ _ _ _ => true) (fun _ _ _ _ => false) (fun _ _ => false) (fun _ _ _ => true) (fun _ _ _ => true) (fun _ _ _ => true) (fun _ _ => false) (fun _ _ => true) (fun _ _ => true) (fun _ _ _ => true) (fun _ _ _ _ => false))
/-- a dict written out -/
noncomputable def isD (e : Expr) : Bool := (PySem.Expr.casesOn (motive_1 := fun _ => Bool) e (fun _ _ _ => false) (fun _ _ _ => false) (fun _ _ _ _ => false) (fun _ _ _ => false) (fun _ _ _ _ => false) (fun _ _ _ _ => false) (fun _ _ _ => true) (fun _ _ _ => false) (fun _ _ _ _ => false) (fun _ _ _ _ => false) (fun _ _ _ _ _ => false) (fun _ _ _ _ => false) (fun _ _ => false) (fun _ _ => false) (fun _ _ => false) (fun _ _ _ _ => false) (fun _ _ _ _ => false) (fun _ _ _ _ => false) (fun _ _ => false) (fun _ _ _ => false) (fun _ _ _ => false) (fun _ _ _ => false) (fun _ _ => false) (fun _ _ => false) (fun _ _ => false) (fun _ _ _ => false) (fun _ _ _ _ => false))
/-- a tuple's assignment whose stores go in some order -/
noncomputable def tupOk (e : Expr) : Bool := (PySem.Expr.casesOn (motive_1 := fun _ => Bool) e (fun _ _ _ => false) (fun _ _ _ => false) (fun _ _ _ _ => false) (fun _ _ _ => false) (fun _ _ _ _ => false) (fun _ _ _ _ => false) (fun _ _ _ => false) (fun _ _ _ => false) (fun _ _ _ _ => false) (fun _ _ _ _ => false) (fun _ _ _ _ _ => false) (fun _ _ _ _ => false) (fun _ _ => false) (fun _ _ => false) (fun _ _ => false) (fun _ _ _ _ => false) (fun _ _ _ _ => true) (fun _ _ _ _ => false) (fun _ _ => false) (fun _ _ _ => false) (fun _ _ _ => false) (fun _ _ _ => false) (fun _ _ => false) (fun _ _ => false) (fun _ _ => false) (fun _ _ _ => false) (fun _ _ _ _ => false))

structure Wp where
  E : Expr → Rho → (V → Prop) → Prop
  B : Expr → Rho → (Bool → Prop) → Prop
  L : List Expr → Rho → (List V → Prop) → Prop
  C : Expr → CmpOp → Expr → Rho → (Bool → Prop) → Prop
  A : BoolOp → List Expr → Rho → (Bool → Prop) → Prop
  V : BoolOp → List Expr → Rho → (V → Prop) → Prop

noncomputable def constP (P : V → Prop) (c : Const) : Prop := (PySem.Const.casesOn (motive := fun _ => Prop) c (P .none) (fun b => P (.bool b)) (fun i => P (.int i)) (fun _ => False) (fun _ _ => False) (fun s => P (.str s)) (fun l => P (.bytes (l.map fun c => (c.toNat : Int)))) (False))
noncomputable def unP (P : V → Prop) (a : V) (o : UnaryOp) : Prop := (PySem.UnaryOp.casesOn (motive := fun _ => Prop) o (False) ((V.casesOn (motive := fun _ => Prop) a (False) (fun b => P (.bool (!b))) (fun _ => False) (fun _ => False) (fun _ => False) (fun _ _ => False) (fun _ _ _ => False) (fun _ => False) (fun _ => False) (fun _ => False) (fun _ => False) (fun _ => False))) (False) ((V.casesOn (motive := fun _ => Prop) a (False) (fun _ => False) (fun i => P (.int (-i))) (fun _ => False) (fun _ => False) (fun _ _ => False) (fun _ _ _ => False) (fun _ => False) (fun _ => False) (fun _ => False) (fun _ => False) (fun _ => False))))
noncomputable def boP (P : Bool → Prop) (a : V) : Prop := (V.casesOn (motive := fun _ => Prop) a (False) (fun b => P b) (fun _ => False) (fun _ => False) (fun _ => False) (fun _ _ => False) (fun _ _ _ => False) (fun _ => False) (fun _ => False) (fun _ => False) (fun _ => False) (fun _ => False))
noncomputable def liP (P : V → Prop) (a : V) : Prop := (V.casesOn (motive := fun _ => Prop) a (False) (fun _ => False) (fun _ => False) (fun _ => False) (fun _ => False) (fun _ _ => False) (fun _ _ _ => False) (fun n => P (.int n)) (fun _ => False) (fun _ => False) (fun _ => False) (fun _ => False))
noncomputable def sliP (a b c : V) (P : V → Prop) : Prop := (V.casesOn (motive := fun _ => Prop) a (False) (fun _ => False) (fun _ => False) (fun _ => False) (fun l => (V.casesOn (motive := fun _ => Prop) b (False) (fun _ => False) (fun i => (V.casesOn (motive := fun _ => Prop) c (False) (fun _ => False) (fun j => ((0 ≤ i ∧ i ≤ j) ∧ l.length ≤ 1000000) ∧ P (.bytes ((l.drop i.toNat).take (j - i).toNat))) (fun _ => False) (fun _ => False) (fun _ _ => False) (fun _ _ _ => False) (fun _ => False) (fun _ => False) (fun _ => False) (fun _ => False) (fun _ => False))) (fun _ => False) (fun _ => False) (fun _ _ => False) (fun _ _ _ => False) (fun _ => False) (fun _ => False) (fun _ => False) (fun _ => False) (fun _ => False))) (fun _ _ => False) (fun _ _ _ => False) (fun _ => False) (fun _ => False) (fun _ => False) (fun _ => False) (fun _ => False))
noncomputable def triP (x y z : V) (P : V → Prop) : Prop := (V.casesOn (motive := fun _ => Prop) x (False) (fun _ => False) (fun _ => False) (fun _ => False) (fun x => (V.casesOn (motive := fun _ => Prop) y (False) (fun _ => False) (fun _ => False) (fun _ => False) (fun y => (V.casesOn (motive := fun _ => Prop) z (False) (fun _ => False) (fun _ => False) (fun _ => False) (fun z => P (.tri x y z)) (fun _ _ => False) (fun _ _ _ => False) (fun _ => False) (fun _ => False) (fun _ => False) (fun _ => False) (fun _ => False))) (fun _ _ => False) (fun _ _ _ => False) (fun _ => False) (fun _ => False) (fun _ => False) (fun _ => False) (fun _ => False))) (fun _ _ => False) (fun _ _ _ => False) (fun _ => False) (fun _ => False) (fun _ => False) (fun _ => False) (fun _ => False))
noncomputable def prP (P : V → Prop) (vs : List V) : Prop := (List.casesOn (motive := fun _ => Prop) vs (False) (fun x r => (List.casesOn (motive := fun _ => Prop) r (False) (fun y r => (List.casesOn (motive := fun _ => Prop) r (P (.pair x y)) (fun z r => (List.casesOn (motive := fun _ => Prop) r (triP x y z P) (fun _ _ => False))))))))
/-- a list written out -/
noncomputable def lsP (P : V → Prop) (vs : List V) : Prop := Nat.ble vs.length 100 = true ∧ (Option.casesOn (motive := fun _ => Prop) (vInts vs) ((Option.casesOn (motive := fun _ => Prop) (vBys vs) (False) (fun l => P (.seq l)))) (fun l => P (.own l)))
/-- an expression that a lemma of its own serves -/
noncomputable def orP (T : Tb) (e : Expr) (ρ : Rho) (P : V → Prop) : Prop := ∃ o ∈ T.orc, o.1 = e ∧ ∃ v, o.2 ρ v ∧ P v
noncomputable def stepE (T : Tb) (w : Wp) (ρ : Rho) (P : V → Prop) (e : Expr) : Prop := (PySem.Expr.casesOn (motive_1 := fun _ => Prop) e (fun op es _ => w.V op es ρ P) (fun _ _ _ => False) (fun l op r _ => w.E l ρ fun a => w.E r ρ fun b => opP op a b P) (fun op x _ => w.E x ρ fun a => unP P a op) (fun _ _ _ _ => False) (fun t a b _ => w.B t ρ fun c => (Bool.casesOn (motive := fun _ => Prop) c (w.E b ρ P) (w.E a ρ P))) (fun _ _ _ => False) (fun _ _ _ => False) (fun _ _ _ _ => orP T e ρ P) (fun _ _ _ _ => False) (fun _ _ _ _ _ => False) (fun _ _ _ _ => False) (fun _ _ => False) (fun _ _ => False) (fun _ _ => False) (fun l ops rs _ => (List.casesOn (motive := fun _ => Prop) ops (False) (fun o ops => (List.casesOn (motive := fun _ => Prop) rs (False) (fun r rs => (List.casesOn (motive := fun _ => Prop) ops ((List.casesOn (motive := fun _ => Prop) rs (w.C l o r ρ fun c => P (.bool c)) (fun _ _ => False))) (fun _ _ => False))))))) (fun f as kw _ => (PySem.Expr.casesOn (motive_1 := fun _ => Prop) f (fun _ _ _ => orP T e ρ P) (fun _ _ _ => orP T e ρ P) (fun _ _ _ _ => orP T e ρ P) (fun _ _ _ => orP T e ρ P) (fun _ _ _ _ => orP T e ρ P) (fun _ _ _ _ => orP T e ρ P) (fun _ _ _ => orP T e ρ P) (fun _ _ _ => orP T e ρ P) (fun _ _ _ _ => orP T e ρ P) (fun _ _ _ _ => orP T e ρ P) (fun _ _ _ _ _ => orP T e ρ P) (fun _ _ _ _ => orP T e ρ P) (fun _ _ => orP T e ρ P) (fun _ _ => orP T e ρ P) (fun _ _ => orP T e ρ P) (fun _ _ _ _ => orP T e ρ P) (fun _ _ _ _ => orP T e ρ P) (fun _ _ _ _ => orP T e ρ P) (fun _ _ => orP T e ρ P) (fun _ _ _ => orP T e ρ P) (fun _ _ _ => orP T e ρ P) (fun _ _ _ => orP T e ρ P) (fun _ _ => orP T e ρ P) (fun f _ => (List.casesOn (motive := fun _ => Prop) as ((List.casesOn (motive := fun _ => Prop) kw ((Option.casesOn (motive := fun _ => Prop) (lkf T.fns f) (orP T e ρ P) (fun sp => ∃ r, sp [] r ∧ P r))) (fun _ _ => orP T e ρ P))) (fun a as => (List.casesOn (motive := fun _ => Prop) kw ((Option.casesOn (motive := fun _ => Prop) (lkf T.fns f) (orP T e ρ P) (fun sp => (Bool.casesOn (motive := fun _ => Prop) ((a :: as).all argE) (False) (w.L (a :: as) ρ fun vs => ∃ r, sp vs r ∧ P r))))) (fun _ _ => orP T e ρ P))))) (fun _ _ => orP T e ρ P) (fun _ _ _ => orP T e ρ P) (fun _ _ _ _ => orP T e ρ P))) (fun _ _ _ _ => False) (fun _ _ => False) (fun c _ _ => constP P c) (fun v n _ => (PySem.Expr.casesOn (motive_1 := fun _ => Prop) v (fun _ _ _ => False) (fun _ _ _ => False) (fun _ _ _ _ => False) (fun _ _ _ => False) (fun _ _ _ _ => False) (fun _ _ _ _ => False) (fun _ _ _ => False) (fun _ _ _ => False) (fun _ _ _ _ => False) (fun _ _ _ _ => False) (fun _ _ _ _ _ => False) (fun _ _ _ _ => False) (fun _ _ => False) (fun _ _ => False) (fun _ _ => False) (fun _ _ _ _ => False) (fun _ _ _ _ => False) (fun _ _ _ _ => False) (fun _ _ => False) (fun _ _ _ => False) (fun _ _ _ => False) (fun _ _ _ => False) (fun _ _ => False) (fun x _ => (Option.casesOn (motive := fun _ => Prop) (lkp ρ x) (False) (fun v => liP (fun u => n = "width" ∧ P u) v))) (fun _ _ => False) (fun _ _ _ => False) (fun _ _ _ _ => False))) (fun v i _ => (Bool.casesOn (motive := fun _ => Prop) (isD v) ((Bool.casesOn (motive := fun _ => Prop) (plainE i) ((PySem.Expr.casesOn (motive_1 := fun _ => Prop) i (fun _ _ _ => False) (fun _ _ _ => False) (fun _ _ _ _ => False) (fun _ _ _ => False) (fun _ _ _ _ => False) (fun _ _ _ _ => False) (fun _ _ _ => False) (fun _ _ _ => False) (fun _ _ _ _ => False) (fun _ _ _ _ => False) (fun _ _ _ _ _ => False) (fun _ _ _ _ => False) (fun _ _ => False) (fun _ _ => False) (fun _ _ => False) (fun _ _ _ _ => False) (fun _ _ _ _ => False) (fun _ _ _ _ => False) (fun _ _ => False) (fun _ _ _ => False) (fun _ _ _ => False) (fun _ _ _ => False) (fun _ _ => False) (fun _ _ => False) (fun _ _ => False) (fun _ _ _ => False) (fun lo hi st _ => (Option.casesOn (motive := fun _ => Prop) lo (False) (fun lo => (Option.casesOn (motive := fun _ => Prop) hi (False) (fun hi => (Option.casesOn (motive := fun _ => Prop) st (w.E v ρ fun a => w.E lo ρ fun b => w.E hi ρ fun c => sliP a b c P) (fun _ => False))))))))) (w.E v ρ fun a => w.E i ρ fun b => subP a b P))) (orP T e ρ P))) (fun _ _ => False) (fun x _ => (Option.casesOn (motive := fun _ => Prop) (lkp ρ x) ((Option.casesOn (motive := fun _ => Prop) (lkc T.cons x) (False) (fun v => P v))) (fun v => P v))) (fun es _ => (Bool.casesOn (motive := fun _ => Prop) (es.all plainE) (False) (w.L es ρ (lsP P)))) (fun es _ _ => (Bool.casesOn (motive := fun _ => Prop) (es.all plainE) (False) (w.L es ρ (prP P)))) (fun _ _ _ _ => False))
noncomputable def stepB (w : Wp) (ρ : Rho) (P : Bool → Prop) (e : Expr) : Prop := (PySem.Expr.casesOn (motive_1 := fun _ => Prop) e (fun op es _ => w.A op es ρ P) (fun _ _ _ => False) (fun _ _ _ _ => False) (fun op x _ => (PySem.UnaryOp.casesOn (motive := fun _ => Prop) op (False) (w.B x ρ fun b => P (!b)) (False) (False))) (fun _ _ _ _ => False) (fun _ _ _ _ => False) (fun _ _ _ => False) (fun _ _ _ => False) (fun _ _ _ _ => False) (fun _ _ _ _ => False) (fun _ _ _ _ _ => False) (fun _ _ _ _ => False) (fun _ _ => False) (fun _ _ => False) (fun _ _ => False) (fun l ops rs _ => (List.casesOn (motive := fun _ => Prop) ops (False) (fun o ops => (List.casesOn (motive := fun _ => Prop) rs (False) (fun r rs => (List.casesOn (motive := fun _ => Prop) ops ((List.casesOn (motive := fun _ => Prop) rs (w.C l o r ρ P) (fun _ _ => False))) (fun o2 ops => (List.casesOn (motive := fun _ => Prop) rs (False) (fun r2 rs => (List.casesOn (motive := fun _ => Prop) ops ((List.casesOn (motive := fun _ => Prop) rs ((Bool.casesOn (motive := fun _ => Prop) (behindInMarks o2 r2) (w.E l ρ fun a => w.E r ρ fun b => cmpP o a b fun c => (Bool.casesOn (motive := fun _ => Prop) c (P false) (w.E r2 ρ fun d => cmpP o2 b d P))) (False))) (fun _ _ => False))) (fun _ _ => False))))))))))) (fun _ _ _ _ => w.E e ρ (boP P)) (fun _ _ _ _ => False) (fun _ _ => False) (fun _ _ _ => False) (fun _ _ _ => False) (fun _ _ _ => False) (fun _ _ => False) (fun _ _ => w.E e ρ (boP P)) (fun _ _ => False) (fun _ _ _ => False) (fun _ _ _ _ => False))
noncomputable def stepL (w : Wp) (ρ : Rho) (P : List V → Prop) (es : List Expr) : Prop := (List.casesOn (motive := fun _ => Prop) es (P []) (fun e r => w.E e ρ fun v => w.L r ρ fun vs => P (v :: vs)))
noncomputable def stepC (w : Wp) (l : Expr) (op : CmpOp) (r : Expr) (ρ : Rho) (P : Bool → Prop) : Prop := (PySem.Expr.casesOn (motive_1 := fun _ => Prop) r (fun _ _ _ => w.E l ρ fun a => w.E r ρ fun b => cmpP op a b P) (fun _ _ _ => False) (fun _ _ _ _ => w.E l ρ fun a => w.E r ρ fun b => cmpP op a b P) (fun _ _ _ => w.E l ρ fun a => w.E r ρ fun b => cmpP op a b P) (fun _ _ _ _ => False) (fun _ _ _ _ => w.E l ρ fun a => w.E r ρ fun b => cmpP op a b P) (fun _ _ _ => False) (fun _ _ _ => False) (fun _ _ _ _ => False) (fun _ _ _ _ => False) (fun _ _ _ _ _ => False) (fun _ _ _ _ => False) (fun _ _ => False) (fun _ _ => False) (fun _ _ => False) (fun _ _ _ _ => w.E l ρ fun a => w.E r ρ fun b => cmpP op a b P) (fun _ _ _ _ => w.E l ρ fun a => w.E r ρ fun b => cmpP op a b P) (fun _ _ _ _ => False) (fun _ _ => False) (fun _ _ _ => w.E l ρ fun a => w.E r ρ fun b => cmpP op a b P) (fun _ _ _ => w.E l ρ fun a => w.E r ρ fun b => cmpP op a b P) (fun _ _ _ => w.E l ρ fun a => w.E r ρ fun b => cmpP op a b P) (fun _ _ => False) (fun _ _ => w.E l ρ fun a => w.E r ρ fun b => cmpP op a b P) (fun _ _ => w.E l ρ fun a => w.E r ρ fun b => cmpP op a b P) (fun es _ _ => (Bool.casesOn (motive := fun _ => Prop) (es.all plainE) (False) (w.E l ρ fun a => w.L es ρ fun vs => (Bool.casesOn (motive := fun _ => Prop) (Nat.ble vs.length 100) (False) (inP op a vs P))))) (fun _ _ _ _ => False))
noncomputable def goOn (op : BoolOp) (b : Bool) (stop go : Prop) : Prop := BoolOp.casesOn (motive := fun _ => Prop) op (Bool.casesOn (motive := fun _ => Prop) b stop go) (Bool.casesOn (motive := fun _ => Prop) b go stop)
noncomputable def stepA (w : Wp) (op : BoolOp) (ρ : Rho) (P : Bool → Prop) (es : List Expr) : Prop := (List.casesOn (motive := fun _ => Prop) es (P (op == .And)) (fun x r => w.B x ρ fun b => goOn op b (P b) (w.A op r ρ P)))
noncomputable def stepV (w : Wp) (op : BoolOp) (ρ : Rho) (P : V → Prop) (es : List Expr) : Prop := (List.casesOn (motive := fun _ => Prop) es (False) (fun x r => (List.casesOn (motive := fun _ => Prop) r (w.E x ρ P) (fun y r => w.E x ρ (boP fun b => goOn op b (P (.bool b)) (w.V op (y :: r) ρ P))))))

noncomputable def wp (T : Tb) (n : Nat) : Wp := Nat.rec ⟨fun _ _ _ => False, fun _ _ _ => False, fun _ _ _ => False, fun _ _ _ _ _ => False, fun _ _ _ _ => False, fun _ _ _ _ => False⟩
  (fun _ w => ⟨fun e ρ P => stepE T w ρ P e, fun e ρ P => stepB w ρ P e, fun es ρ P => stepL w ρ P es, fun l op r ρ P => stepC w l op r ρ P, fun op es ρ P => stepA w op ρ P es, fun op es ρ P => stepV w op ρ P es⟩) n

inductive Fl where
  | next | brk | ret (v : V)
noncomputable def flW (again brk : Prop) (P : Fl → Prop) (fl : Fl) : Prop := Fl.casesOn (motive := fun _ => Prop) fl again brk (fun v => P (.ret v))
noncomputable abbrev Px := Rho → (Fl → Rho → Prop) → Prop
/-- a store into one name, or into two -/
noncomputable def stoP (w : Wp) (X : Px) (ρ : Rho) (P : Fl → Rho → Prop) (e : Expr) (x : Str) : Prop := ∃ v, w.E e ρ (· = v) ∧ Bool.casesOn (motive := fun _ => Prop) (has ρ x && plainE e) False (X (put ρ x v) P)
noncomputable def stoQ (w : Wp) (X : Px) (ρ : Rho) (P : Fl → Rho → Prop) (e : Expr) (x y : Str) : Prop := ∃ u v, w.E e ρ (· = .pair u v) ∧ Bool.casesOn (motive := fun _ => Prop) ((has ρ x && has ρ y) && (tupOk e && !decide (x = y))) False (X (put (put ρ x u) y v) P)

/-- the names of a tuple's targets -/
noncomputable def nms (ts : List Expr) : Option (List Str) := List.rec (some []) (fun t _ ih => (PySem.Expr.casesOn (motive_1 := fun _ => Option (List Str)) t (fun _ _ _ => none) (fun _ _ _ => none) (fun _ _ _ _ => none) (fun _ _ _ => none) (fun _ _ _ _ => none) (fun _ _ _ _ => none) (fun _ _ _ => none) (fun _ _ _ => none) (fun _ _ _ _ => none) (fun _ _ _ _ => none) (fun _ _ _ _ _ => none) (fun _ _ _ _ => none) (fun _ _ => none) (fun _ _ => none) (fun _ _ => none) (fun _ _ _ _ => none) (fun _ _ _ _ => none) (fun _ _ _ _ => none) (fun _ _ => none) (fun _ _ _ => none) (fun _ _ _ => none) (fun _ _ _ => none) (fun _ _ => none) (fun x _ => ih.map (x :: ·)) (fun _ _ => none) (fun _ _ _ => none) (fun _ _ _ _ => none))) ts
noncomputable def puts (ρ : Rho) (xs : List Str) (vs : List V) : Rho := List.rec (motive := fun _ => Rho → List V → Rho) (fun ρ _ => ρ) (fun x _ ih ρ vs => List.casesOn (motive := fun _ => Rho) vs ρ fun v r => ih (put ρ x v) r) xs ρ vs
noncomputable def stoN (w : Wp) (X : Px) (ρ : Rho) (P : Fl → Rho → Prop) (es : List Expr) (xs : List Str) : Prop := ∃ vs, w.L es ρ (· = vs) ∧ Bool.casesOn (motive := fun _ => Prop) ((decide (vs.length = xs.length) && (xs.all (has ρ) && decide xs.Nodup)) && (es.all argE && ((es.all (foldedForSure 8) || !es.all (constantsAlone 8)) && Nat.ble xs.length 100))) False (X (puts ρ xs vs) P)
noncomputable def asgP (w : Wp) (X : Px) (ρ : Rho) (P : Fl → Rho → Prop) (e : Expr) (t : Expr) : Prop := (PySem.Expr.casesOn (motive_1 := fun _ => Prop) t (fun _ _ _ => False) (fun _ _ _ => False) (fun _ _ _ _ => False) (fun _ _ _ => False) (fun _ _ _ _ => False) (fun _ _ _ _ => False) (fun _ _ _ => False) (fun _ _ _ => False) (fun _ _ _ _ => False) (fun _ _ _ _ => False) (fun _ _ _ _ _ => False) (fun _ _ _ _ => False) (fun _ _ => False) (fun _ _ => False) (fun _ _ => False) (fun _ _ _ _ => False) (fun _ _ _ _ => False) (fun _ _ _ _ => False) (fun _ _ => False) (fun _ _ _ => False) (fun _ _ _ => False) (fun _ _ _ => False) (fun _ _ => False) (fun x _ => stoP w X ρ P e x) (fun _ _ => False) (fun ts _ _ => (PySem.Expr.casesOn (motive_1 := fun _ => Prop) e (fun _ _ _ => False) (fun _ _ _ => False) (fun _ _ _ _ => False) (fun _ _ _ => False) (fun _ _ _ _ => False) (fun _ _ _ _ => False) (fun _ _ _ => False) (fun _ _ _ => False) (fun _ _ _ _ => False) (fun _ _ _ _ => False) (fun _ _ _ _ _ => False) (fun _ _ _ _ => False) (fun _ _ => False) (fun _ _ => False) (fun _ _ => False) (fun _ _ _ _ => False) (fun _ _ _ _ => (Option.casesOn (motive := fun _ => Prop) (nms ts) (False) (fun xs => (List.casesOn (motive := fun _ => Prop) xs (False) (fun x r => (List.casesOn (motive := fun _ => Prop) r (False) (fun y r => (List.casesOn (motive := fun _ => Prop) r (stoQ w X ρ P e x y) (fun _ _ => False))))))))) (fun _ _ _ _ => False) (fun _ _ => False) (fun _ _ _ => False) (fun _ _ _ => False) (fun _ _ _ => False) (fun _ _ => False) (fun _ _ => False) (fun _ _ => False) (fun es _ _ => (Option.casesOn (motive := fun _ => Prop) (nms ts) (False) (fun xs => stoN w X ρ P es xs))) (fun _ _ _ _ => False))) (fun _ _ _ _ => False))
/-- what a loop goes along -/
noncomputable def itV (x : V) : Option (List V) := (V.casesOn (motive := fun _ => Option (List V)) x (none) (fun _ => none) (fun _ => none) (fun _ => none) (fun _ => none) (fun _ _ => none) (fun a b c => some [.bytes a, .bytes b, .bytes c]) (fun _ => none) (fun _ => none) (fun l => some (l.map .int)) (fun l => some (l.map .bytes)) (fun n => some ((List.range n).map fun (i : Nat) => .int (i : Int))))
noncomputable def forP (X : List Stmt → Px) (body rest : List Stmt) (ρ : Rho) (P : Fl → Rho → Prop) (x : Str) (v : V) : Prop := (Option.casesOn (motive := fun _ => Prop) (itV v) (False) (fun vs => ∃ I : List V → Rho → Prop, I vs ρ ∧ (∀ u r ρ', I (u :: r) ρ' → X body (put ρ' x u) fun fl ρ'' => flW (I r ρ'') (X rest ρ'' P) (fun fl => P fl ρ'') fl) ∧ ∀ ρ', I [] ρ' → X rest ρ' P))
noncomputable def stepX (w : Wp) (X : List Stmt → Px) (rest : List Stmt) (ρ : Rho) (P : Fl → Rho → Prop) (s : Stmt) : Prop := (PySem.Stmt.casesOn (motive_2 := fun _ => Prop) s (fun _ _ _ _ _ _ _ _ _ _ => False) (fun _ _ _ _ _ _ _ _ _ _ => False) (fun _ _ _ _ _ _ _ _ _ _ _ => False) (fun e _ => (Option.casesOn (motive := fun _ => Prop) e (False) (fun e => w.E e ρ fun v => P (.ret v) ρ))) (fun _ _ => False) (fun ts e _ => (List.casesOn (motive := fun _ => Prop) ts (False) (fun t r => (List.casesOn (motive := fun _ => Prop) r (asgP w (X rest) ρ P e t) (fun _ _ => False))))) (fun _ _ _ _ _ _ _ => False) (fun _ _ _ _ => False) (fun _ _ _ _ _ => False) (fun t it body els _ => (Bool.casesOn (motive := fun _ => Prop) (plainE it) (False) ((PySem.Expr.casesOn (motive_1 := fun _ => Prop) t (fun _ _ _ => False) (fun _ _ _ => False) (fun _ _ _ _ => False) (fun _ _ _ => False) (fun _ _ _ _ => False) (fun _ _ _ _ => False) (fun _ _ _ => False) (fun _ _ _ => False) (fun _ _ _ _ => False) (fun _ _ _ _ => False) (fun _ _ _ _ _ => False) (fun _ _ _ _ => False) (fun _ _ => False) (fun _ _ => False) (fun _ _ => False) (fun _ _ _ _ => False) (fun _ _ _ _ => False) (fun _ _ _ _ => False) (fun _ _ => False) (fun _ _ _ => False) (fun _ _ _ => False) (fun _ _ _ => False) (fun _ _ => False) (fun x _ => (List.casesOn (motive := fun _ => Prop) els ((Bool.casesOn (motive := fun _ => Prop) (has ρ x) (False) (w.E it ρ (forP X body rest ρ P x)))) (fun _ _ => False))) (fun _ _ => False) (fun _ _ _ => False) (fun _ _ _ _ => False))))) (fun _ _ _ _ _ => False) (fun t body els _ => (List.casesOn (motive := fun _ => Prop) els (∃ (I : Rho → Prop) (μ : Rho → Nat), I ρ ∧ ∀ ρ', I ρ' → w.B t ρ' fun c => (Bool.casesOn (motive := fun _ => Prop) c (X rest ρ' P) (X body ρ' fun fl ρ'' => flW (I ρ'' ∧ μ ρ'' < μ ρ') (X rest ρ'' P) (fun fl => P fl ρ'') fl))) (fun _ _ => False))) (fun t a b _ => w.B t ρ fun c => X (Bool.casesOn (motive := fun _ => List Stmt) c b a) ρ fun fl ρ' => flW (X rest ρ' P) (P .brk ρ') (fun fl => P fl ρ') fl) (fun _ _ _ => False) (fun _ _ _ => False) (fun _ _ _ => False) (fun _ _ _ => False) (fun _ _ _ _ _ => False) (fun _ _ _ _ _ => False) (fun _ _ _ => False) (fun _ _ => False) (fun _ _ _ _ => False) (fun _ _ => False) (fun _ _ => False) (fun _ _ => False) (fun _ => False) (fun _ => P .brk ρ) (fun _ => False))
noncomputable def wpx (T : Tb) (n : Nat) : List Stmt → Px := Nat.rec (fun _ _ _ => False) (fun n X ss ρ P => List.casesOn (motive := fun _ => Prop) ss (P .next ρ) fun s rest => stepX (wp T n) X rest ρ P s) n
end

section ops
variable {prog : Program} {w : World} {A : Around} {E : Value → Shared → Prop} {s : Shared} {h₀ : Heap} {news : List (Addr × Obj)} {Q : Value → Shared → Prop}

theorem big_bits {a : Int} (h : a.natAbs < Big) : Builtin.Int.intBits a ≤ 3000 := intBits_le_iff.mpr (by unfold Big at h; exact h)
theorem big_log {b : Int} (h0 : 0 < b) (h : b.natAbs < Big) : b.natAbs.log2 < 9000 := by
  unfold Big at h
  exact Nat.lt_trans ((Nat.log2_lt (by omega)).mpr h) (by decide)
theorem big_shl {a b : Int} (h : a.natAbs < Big) (hb : b ≤ 1000) : (Builtin.Int.intBits a : Int) + b ≤ 2 ^ 27 := by
  have h1 := big_bits h
  have : (2 : Int) ^ 27 = 134217728 := by decide
  omega

theorem big_pow {a b : Int} (h : a.natAbs < Big) (hb : 0 ≤ b ∧ b ≤ 1000) : (Builtin.Int.intBits a : Int) * b ≤ 2 ^ 27 := by
  have h1 := big_bits h
  have e : (2 : Int) ^ 27 = 134217728 := by decide
  have h2 : (Builtin.Int.intBits a : Int) * b ≤ 3000 * b := Int.mul_le_mul_of_nonneg_right (by omega) hb.1
  omega

theorem opI_s {o : Operator} {a b : Int} {t u : Tok} {P : V → Prop} (hp : opI a b P o) (k : ∀ c i tk, P (.int i) → Q (.int i c) { s with toks := tk }) : wpAny (model prog w) A (binaryOp o (.int a t) (.int b u)) Q E s := by
  cases o with
  | Add => exact add_int (k _ _ _ hp)
  | Sub => exact sub_int (k _ _ _ hp)
  | Mult => exact mul_int (k _ _ _ hp.2) (IntMulOk.of_bits (Nat.le_trans (big_bits hp.1.1) (by decide)) (Nat.le_trans (big_bits hp.1.2) (by decide)))
  | FloorDiv => exact floordiv_int (Int.ne_of_gt hp.1.1) (k _ _ _ ((Int.fdiv_eq_ediv_of_nonneg _ (Int.le_of_lt hp.1.1)).symm ▸ hp.2)) (.inl (PyProof.noPylong_of_log2 (big_log hp.1.1 hp.1.2)))
  | Mod => exact mod_int' hp.1 (k _ _ _ hp.2)
  | LShift => exact lshift_int hp.1.2.1 (big_shl hp.1.1 hp.1.2.2) (k _ _ _ hp.2)
  | RShift => exact rshift_int hp.1 (k _ _ _ ((Int.fdiv_eq_ediv_of_nonneg _ (Int.le_of_lt (Int.pow_pos (n := 2) (by decide)))).symm ▸ hp.2))
  | BitAnd => exact and_int (k _ _ _ hp)
  | BitOr => exact or_int (k _ _ _ hp)
  | Pow => exact pow_int hp.1.2.1 (big_pow hp.1.1 hp.1.2) (k _ _ _ hp.2)
  | _ => exact hp.elim

theorem op_s {o : Operator} {x y : Value} {a b : V} {P : V → Prop} (hp : opP o a b P) (hx : R h₀ news x a) (hy : R h₀ news y b)
    (k : ∀ v c tk, P c → R h₀ news v c → Q v { s with toks := tk }) : wpAny (model prog w) A (binaryOp o x y) Q E s := by
  cases a with
  | int a =>
    cases b with
    | int b =>
      obtain ⟨t, rfl⟩ := hx
      obtain ⟨u, rfl⟩ := hy
      exact opI_s hp fun c i tk q => k _ _ tk q ⟨c, rfl⟩
    | _ => exact hp.elim
  | bytes a =>
    cases b with
    | bytes b =>
      obtain ⟨x, t, rfl, rfl⟩ := hx
      obtain ⟨y, u, rfl, rfl⟩ := hy
      cases o with
      | Add =>
        refine KBy.add_bytes (Nat.le_trans (Nat.le_of_eq ?_) (Nat.le_trans hp.1 (by decide))) fun t' tk => k _ _ _ hp.2 ⟨_, _, rfl, KBw.ints_app rfl rfl⟩
        rw [KBw.ints_length, KBw.ints_length]
      | _ => exact hp.elim
    | _ => exact hp.elim
  | _ => exact hp.elim

theorem bInts_inj {a b : Array UInt8} : KBw.bInts a = KBw.bInts b ↔ a.toList = b.toList :=
  ⟨fun h => List.map_inj_right (fun _ _ e => UInt8.toNat_inj.mp (Int.ofNat.inj e)) |>.mp h, fun h => congrArg (List.map _) h⟩
theorem dec2 {p : Prop} [Decidable p] {P : Bool → Prop} (h : (p → P true) ∧ (¬ p → P false)) : P (decide p) :=
  (Decidable.em p).elim (fun hp => (decide_eq_true hp).symm ▸ h.1 hp) fun hp => (decide_eq_false hp).symm ▸ h.2 hp
theorem bne_dec {α : Type} [DecidableEq α] (a b : α) : (a != b) = decide (¬ a = b) := Bool.eq_iff_iff.mpr (by rw [bne_iff_ne, decide_eq_true_iff])
theorem beq_dec {α : Type} [DecidableEq α] (a b : α) : (a == b) = decide (a = b) := Bool.eq_iff_iff.mpr (by rw [beq_iff_eq, decide_eq_true_iff])
theorem beqL (a b : List UInt8) : (a == b) = decide (a = b) := Bool.eq_iff_iff.mpr (by rw [beq_iff_eq, decide_eq_true_iff])
theorem bneL (a b : List UInt8) : (a != b) = decide (¬ a = b) := Bool.eq_iff_iff.mpr (by rw [bne_iff_ne, decide_eq_true_iff])
theorem nn {p : Prop} {P : Bool → Prop} [Decidable p] (h : (¬ p → P true) ∧ (p → P false)) : P (decide (¬ p)) := dec2 ⟨h.1, fun e => h.2 (Decidable.not_not.mp e)⟩

theorem mem_bInts {b : Array UInt8} {i : Int} (h : 0 ≤ i ∧ i < 256) : i ∈ KBw.bInts b ↔ b.contains i.toNat.toUInt8 = true := by
  unfold KBw.bInts
  rw [List.mem_map, Array.contains_iff_mem]
  constructor
  · intro ⟨c, hc, e⟩
    have : c = i.toNat.toUInt8 := UInt8.toNat_inj.mp (by rw [← e]; simp)
    exact this ▸ Array.mem_toList_iff.mp hc
  · exact fun hm => ⟨_, Array.mem_toList_iff.mpr hm, byte_back h.1 h.2⟩
theorem in_bytes {b : Array UInt8} {i : Int} {t u : Tok} (h : 0 ≤ i ∧ i < 256) (k : Q (.bool (b.contains i.toNat.toUInt8)) s) :
    wpAny (model prog w) A (compareOp .In (.int i u) (.bytes b t)) Q E s := by
  refine wpAny_bind (wpAny_contains_slot (typeIs_bytes s b t) FB.slot_bytes_contains (call_gives FB.slot_bytes_contains (typeIs_bytes s b t) FB.entry_bytes_contains (FB.args_bytes_contains_2 _ _)
    (m := .val (.bool (b.contains i.toNat.toUInt8))) (.of_wp fun M A E s Q hq => ?_) (wpAny_truthy_bool (wpAny_pure k))))
  show wpAny M A (Builtin.Bytes.containsIn "bytes.__contains__" (.bytes b t) (.int i u) >>= fun r => _) _ E s
  refine wpAny_bind ?_
  unfold Builtin.Bytes.containsIn
  refine wpAny_bind (wpAny_attempt (wpAny_of_eq (a := i) rfl ?_))
  refine wpAny_bind (wpAny_of_eq KBy.buffer_eq ?_)
  dsimp only
  rw [if_neg (by simp; omega)]
  exact wpAny_pure (wpAny_pure ⟨_, rfl, hq⟩)

theorem cmpI_s {o : CmpOp} {a b : Int} {t u : Tok} {P : Bool → Prop} (hp : cmpI a b P o) (k : ∀ c tk, P c → Q (.bool c) { s with toks := tk }) : wpAny (model prog w) A (compareOp o (.int a t) (.int b u)) Q E s := by
  cases o with
  | Eq => walk1; exact k _ _ (dec2 hp)
  | NotEq => walk1; exact k _ _ (bne_dec a b ▸ nn hp)
  | Lt => walk1; exact k _ _ (dec2 hp)
  | LtE => walk1; exact k _ _ (dec2 hp)
  | Gt => walk1; exact k _ _ (dec2 hp)
  | GtE => walk1; exact k _ _ (dec2 hp)
  | _ => exact hp.elim

theorem cmp_s {L : Addr} {o : CmpOp} {x y : Value} {a b : V} {P : Bool → Prop} (hp : cmpP o a b P) (hx : R h₀ news x a) (hy : R h₀ news y b) (N : News h₀ L s.heap news) (hu : A.units < cLine)
    (k : ∀ c tk, P c → Q (.bool c) { s with toks := tk }) : wpAny (model prog w) A (compareOp o x y) Q E s := by
  cases a with
  | int a =>
    obtain ⟨t, rfl⟩ := hx
    cases b with
    | int b =>
      obtain ⟨u, rfl⟩ := hy
      exact cmpI_s hp k
    | none =>
      cases hy
      cases o with
      | Is => walk1; exact k _ _ hp
      | IsNot => walk1; exact k _ _ hp
      | _ => exact hp.elim
    | bytes l =>
      obtain ⟨b, u, rfl, rfl⟩ := hy
      cases o with
      | In =>
        refine in_bytes hp.1 (k _ s.toks ?_)
        have := mem_bInts (b := b) hp.1
        cases hc : b.contains a.toNat.toUInt8 with
        | true => exact hp.2.1 (this.mpr hc)
        | false => exact hp.2.2 (fun e => Bool.noConfusion (hc.symm.trans (this.mp e)))
      | _ => exact hp.elim
    | _ => exact hp.elim
  | str a =>
    obtain ⟨t, rfl⟩ := hx
    cases b with
    | str b =>
      obtain ⟨u, rfl⟩ := hy
      cases o with
      | Eq => walk1; exact k _ _ (beq_dec a b ▸ dec2 hp)
      | NotEq => walk1; exact k _ _ (bne_dec a b ▸ nn hp)
      | _ => exact hp.elim
    | _ => exact hp.elim
  | bytes a =>
    obtain ⟨a, t, rfl, rfl⟩ := hx
    cases b with
    | bytes b =>
      obtain ⟨b, u, rfl, rfl⟩ := hy
      cases o with
      | Eq => walk1; exact k _ _ (beqL _ _ ▸ dec2 ⟨fun h => hp.1 (bInts_inj.mpr h), fun h => hp.2 (fun e => h (bInts_inj.mp e))⟩)
      | NotEq => walk1; exact k _ _ (bneL _ _ ▸ nn ⟨fun h => hp.1 (fun e => h (bInts_inj.mp e)), fun h => hp.2 (bInts_inj.mpr h)⟩)
      | _ => exact hp.elim
    | _ => exact hp.elim
  | none =>
    cases hx
    cases b with
    | none =>
      cases hy
      cases o with
      | Is => walk1; exact k _ _ hp
      | IsNot => walk1; exact k _ _ hp
      | _ => exact hp.elim
    | _ => exact hp.elim
  | bool a =>
    cases hx
    cases b with
    | bool b =>
      cases hy
      cases o with
      | Eq => walk1; exact k _ s.toks hp
      | NotEq => walk1; exact k _ s.toks hp
      | _ => exact hp.elim
    | _ => exact hp.elim
  | own a =>
    obtain ⟨l, vs, n, rfl, hm, hi⟩ := hx
    cases b with
    | own b =>
      obtain ⟨l', vs', n', rfl, hm', hi'⟩ := hy
      cases o with
      | Eq =>
        obtain ⟨rfl, hp⟩ := hp
        cases hi'
        have hl := News.isList N hm
        have hl' := News.isList N hm'
        have e := hi.length
        refine cmp_ofEq ?_
        by_cases ha : a = []
        · subst ha
          cases hi
          exact PySem.SeqAt.eq_listAt (e := fun _ => true) hl hl' rfl hu (fun i h => absurd h (Nat.not_lt_zero _)) (k true s.toks (hp.1 rfl))
        · refine PySem.SeqAt.eq_list_lengthsAt hl hl' ?_ hu (k false s.toks (hp.2 ha))
          rw [List.size_toArray, e]
          cases a with
          | nil => exact absurd rfl ha
          | cons => exact rfl
      | _ => exact hp.elim
    | _ => exact hp.elim
  | _ => exact hp.elim

theorem letGo_bytes (value : Expr) (b : Array UInt8) (t : Tok) (r : Value) : letTemporaryGo value (.bytes b t) r = pure () := by
  cases value <;> rfl
theorem subd {slice : Expr} {o i : Value} (h : plainE slice = true) : subscripted slice false o i = operate [o, i] (getItem o i) := by
  cases slice <;> first | rfl | exact Bool.noConfusion h

theorem R_ints {vs : List V} : ∀ {ws : List Value} {l : List Int}, RL h₀ news vs ws → vInts vs = some l → IntsAre ws l := by
  induction vs with
  | nil => intro ws l hw e; cases hw; cases e; exact .nil
  | cons x r ih =>
    intro ws l ⟨v, q, e1, hv, hq⟩ e
    subst e1
    cases x with
    | int i =>
      obtain ⟨t, rfl⟩ := hv
      obtain ⟨l', e2, rfl⟩ := Option.map_eq_some_iff.mp e
      exact .cons _ _ (ih hq e2)
    | _ => exact (nomatch (show none = some _ from e))
theorem R_strs {vs : List V} : ∀ {ws : List Value} {l : List Str}, RL h₀ news vs ws → vStrs vs = some l → StrsAre ws l := by
  induction vs with
  | nil => intro ws l hw e; cases hw; cases e; exact .nil
  | cons x r ih =>
    intro ws l ⟨v, q, e1, hv, hq⟩ e
    subst e1
    cases x with
    | str i =>
      obtain ⟨t, rfl⟩ := hv
      obtain ⟨l', e2, rfl⟩ := Option.map_eq_some_iff.mp e
      exact .cons _ _ (ih hq e2)
    | _ => exact (nomatch (show none = some _ from e))
theorem any_eq {α : Type} [DecidableEq α] (l : List α) (x : α) : l.any (· == x) = decide (x ∈ l) := by
  rw [Bool.eq_iff_iff]; simp
noncomputable def eqBy (a : Array UInt8) (y : Value) : Bool := match y with
  | .bytes b _ => decide (b.toList = a.toList)
  | _ => false
theorem R_bys {a : Array UInt8} {vs : List V} : ∀ {ws : List Value} {l : List (List Int)}, RL h₀ news vs ws → vBys vs = some l → (∀ y ∈ ws, ∃ b t, y = .bytes b t) ∧ ws.any (eqBy a) = decide (KBw.bInts a ∈ l) := by
  induction vs with
  | nil => intro ws l hw e; cases hw; cases e; exact ⟨fun _ h => (nomatch h), by simp⟩
  | cons x r ih =>
    intro ws l ⟨v, q, e1, hv, hq⟩ e
    subst e1
    cases x with
    | bytes i =>
      obtain ⟨b, t, rfl, rfl⟩ := hv
      obtain ⟨l', e2, rfl⟩ := Option.map_eq_some_iff.mp e
      have ⟨i1, i2⟩ := ih hq e2
      refine ⟨fun y hy => (List.mem_cons.mp hy).elim (fun h => ⟨b, t, h⟩) (i1 y), ?_⟩
      rw [List.any_cons, i2, Bool.eq_iff_iff]
      simp only [eqBy, Bool.or_eq_true, decide_eq_true_eq, List.mem_cons]
      exact or_congr ⟨fun h => bInts_inj.mpr h.symm, fun h => (bInts_inj.mp h).symm⟩ Iff.rfl
    | _ => exact (nomatch (show none = some _ from e))
theorem in_s {o : CmpOp} {x : Value} {a : V} {vs : List V} {ws : List Value} {t : Addr} {P : Bool → Prop} (hp : inP o a vs P) (hx : R h₀ news x a) (ht : IsTup s.heap t ws.toArray) (hw : RL h₀ news vs ws)
    (k : ∀ c, P c → Q (.bool c) s) : wpAny (model prog w) A (compareOp o x (.ref t)) Q E s := by
  cases a with
  | int a =>
    obtain ⟨u, rfl⟩ := hx
    unfold inP at hp
    cases hv : vInts vs with
    | none => rw [hv] at hp; exact hp.elim
    | some l =>
      rw [hv] at hp
      cases o with
      | In => exact in_tuple_ints ht (R_ints hw hv) (k _ (any_eq l a ▸ dec2 hp))
      | NotIn => exact notin_tuple_ints ht (R_ints hw hv) (k _ (by rw [any_eq, ← decide_not]; exact nn hp))
      | _ => exact hp.elim
  | str a =>
    obtain ⟨u, rfl⟩ := hx
    unfold inP at hp
    cases hv : vStrs vs with
    | none => rw [hv] at hp; exact hp.elim
    | some l =>
      rw [hv] at hp
      cases o with
      | In => exact in_tuple_strs ht (R_strs hw hv) (k _ (any_eq l a ▸ dec2 hp))
      | _ => exact hp.elim
  | bytes a =>
    obtain ⟨b, u, rfl, rfl⟩ := hx
    unfold inP at hp
    cases hv : vBys vs with
    | none => rw [hv] at hp; exact hp.elim
    | some l =>
      rw [hv] at hp
      have ⟨i1, i2⟩ := R_bys (a := b) hw hv
      cases o with
      | In =>
        refine PySem.SeqAt.in_tupleAt (eqBy b) ht (fun y hy => ?_) (k _ ?_)
        · obtain ⟨c, t, rfl⟩ := i1 y (List.mem_toArray.mp hy)
          exact fun prog w E Q hq => eqBool_bytes hq
        · rw [List.any_toArray, i2]; exact dec2 hp
      | _ => exact hp.elim
  | _ => exact hp.elim

theorem item_ints {value slice : Expr} {l : Addr} {vs : List Value} {ns : List Int} {j : Int} {u : Tok} {P : V → Prop} (hp : subL ns j P) (hl : s.heap.IsList l vs.toArray) (hi : IntsAre vs ns)
    (hs : subscripted slice false (.ref l) (.int j u) = operate [.ref l, .int j u] (getItem (.ref l) (.int j u))) (k : ∀ v c tk, P c → R h₀ news v c → Q v { s with toks := tk }) : wpAny (model prog w) A (subscriptTail value slice (.ref l) (.int j u)) Q E s := by
  have h1 : j.toNat < ns.length := by have := hp.1.1; omega
  obtain ⟨t, ht⟩ := hi.get j.toNat ns[j.toNat] (List.getElem?_eq_getElem h1)
  refine tail_any hl.typeIs slot_list_getitem.lookup (wpAny_getItem_list hl hp.1.1.1 (by have := hp.1; omega) (by simpa using ht) (k _ _ s.toks hp.2 ⟨t, ?_⟩)) hs
  rw [List.getD_eq_getElem?_getD, List.getElem?_eq_getElem h1]
  rfl
theorem sub_s {value slice : Expr} {x y : Value} {a b : V} {P : V → Prop} (hp : subP a b P) (hx : R h₀ news x a) (hy : R h₀ news y b) (hs : plainE slice = true)
    {L : Addr} {m : Str → Option Value} (F : Fr h₀ L s.heap m) (N : News h₀ L s.heap news)
    (k : ∀ v c tk, P c → R h₀ news v c → Q v { s with toks := tk }) : wpAny (model prog w) A (subscriptTail value slice x y) Q E s := by
  cases b with
  | int j =>
    obtain ⟨u, rfl⟩ := hy
    cases a with
    | bytes l =>
      obtain ⟨b, t, rfl, rfl⟩ := hx
      exact KBw.item_K rfl (Nat.le_trans hp.1.2 (by decide)) hp.1.1.1 hp.1.1.2 (fun t' tk h1 h2 => k _ _ _ (hp.2 ⟨h1, h2⟩) ⟨_, rfl⟩) (subd hs) (letGo_bytes _ _ _)
    | pair p q =>
      obtain ⟨ad, x, y, rfl, hm, h1, h2⟩ := hx
      change subQ p q j P at hp
      unfold subQ at hp
      by_cases h0 : j = 0
      · subst h0
        exact item_tupleT (l := [_, _]) (j := 0) (News.isTup N hm) (by decide) (by decide) rfl rfl (k _ _ s.toks hp h1) (subd hs)
      · rw [decide_eq_false h0] at hp
        by_cases h0 : j = 1
        · subst h0
          exact item_tupleT (l := [_, _]) (j := 1) (News.isTup N hm) (by decide) (by decide) rfl rfl (k _ _ s.toks hp h2) (subd hs)
        · rw [decide_eq_false h0] at hp
          exact hp.elim
    | lst l =>
      obtain ⟨a, vs, rfl, hl, hi⟩ := hx
      exact item_ints hp (stays_list F.keep hl) hi (subd hs) k
    | own l =>
      obtain ⟨a, vs, n, rfl, hl, hi⟩ := hx
      exact item_ints hp (News.isList N hl) hi (subd hs) k
    | _ => exact hp.elim
  | _ => exact hp.elim

theorem take_clip {α : Type} (l : List α) {i j : Nat} (h : i ≤ j) : (l.drop (min i l.length)).take (min j l.length - min i l.length) = (l.drop i).take (j - i) := by
  by_cases hi : l.length ≤ i
  · rw [List.drop_eq_nil_of_le hi, Nat.min_eq_right hi, List.drop_length, List.take_nil, List.take_nil]
  · rw [Nat.min_eq_left (Nat.le_of_not_le hi), List.take_eq_take_iff, List.length_drop]
    omega
theorem isPart (i : Int) (t : Tok) : IsPart (.int i t) (some i) := by constructor
theorem sli_s {value lo hi : Expr} {p : Pos} {x y z : Value} {a b c : V} {P : V → Prop} {L : Addr} {m : Str → Option Value} (hp : sliP a b c P) (hx : R h₀ news x a) (hy : R h₀ news y b) (hz : R h₀ news z c) (F : Fr h₀ L s.heap m) (N : News h₀ L s.heap news)
    (k : ∀ v u h' tk, P u → R h₀ news v u → Fr h₀ L h' m → News h₀ L h' news → Q v { s with heap := h', toks := tk }) :
    wpAny (model prog w) A (subscriptTail value (.Slice (some lo) (some hi) none p) x (.ref s.heap.objs.size)) Q E { s with heap := s.heap.push { cls := .type "slice", data := .fields #[y, z, .none] } } := by
  cases a with
  | bytes l =>
    obtain ⟨bb, t, rfl, hb⟩ := hx
    cases b with
    | int i =>
      obtain ⟨u, rfl⟩ := hy
      cases c with
      | int j =>
        obtain ⟨u', rfl⟩ := hz
        have h0 := hp.1.1
        refine KBc.slice_K F N hb (isPart i u) (isPart j u') (Nat.le_trans hp.1.2 (by decide)) (fun h' t' tk F' N' e => k _ _ h' tk hp.2 ⟨_, t', rfl, ?_⟩ F' N') rfl (letGo_bytes _ _ _)
        rw [e]
        have c1 : ∀ n : Int, 0 ≤ n → clipAt l.length n = min n.toNat l.length := fun n hn => by
          rw [show n = (n.toNat : Int) from (Int.toNat_of_nonneg hn).symm]
          exact (clipAt_nat _ _).trans (by rw [Int.toNat_natCast])
        show (l.drop (clipAt l.length i)).take (clipAt l.length j - clipAt l.length i) = _
        rw [c1 i h0.1, c1 j (Int.le_trans h0.1 h0.2)]
        rw [show (j - i).toNat = j.toNat - i.toNat by omega]
        exact take_clip l (by omega)
      | _ => exact hp.elim
    | _ => exact hp.elim
  | _ => exact hp.elim
end ops

structure Gl where
  prog : Program
  w : World
  K : Frag
  p : Program
  loose : List Str
  mean : ExcName → Option Value
  mg : Str → Option Value
  mb : Str → Option Value
  lim : ∃ a, plainGet K limA "width" = true ∧ hasDictIn K limA = true ∧ findIn K (.ref limA) "width" = some a ∧ noGet K a = true
noncomputable abbrev W (g : Gl) : Model := model g.prog g.w
noncomputable abbrev noE : Value → Shared → Prop := fun _ _ => False

/-- a frame from which a def is called, with d frames' room above it -/
structure Cx (g : Gl) (d : Nat) where
  dp : Nat
  un : Nat
  gd : Option (List Code)
  cn : Str
  cs : Scope
  L : Addr
  a : Addr
  ccd : Value
  cl : List (Str × Addr)
  outer : List Env
  A₀ : Around
  base : Heap
  h₀ : Heap
  B : Below A₀ base outer h₀
  X : g.K.In h₀
  T : Top g.p g.loose g.mean g.mg g.mb h₀
  hk : cs.kind = .function
  hd : dp + d < recursionLimit
  hu : un + 8 * d < cLine
  ht : (cs.names.lookup ("turn" : Str) == some NameKind.local) = true → outer = [] ∧ cl = []
  XB : g.K.In base
  TB : Top g.p g.loose g.mean g.mg g.mb base
section
variable {g : Gl} {d : Nat}
noncomputable def Cx.A (c : Cx g d) : Around := ktrTop c.dp c.un c.gd c.cn c.cs c.L c.a c.ccd c.cl c.outer
noncomputable def Cx.env (c : Cx g d) : Env := envX c.cn c.cs c.L c.a c.ccd c.cl

theorem Cx.units (c : Cx g d) : c.A.units < cLine := Nat.lt_of_le_of_lt (Nat.le_add_right c.un (8 * d)) c.hu
/-- the state of a walk: the frame's map, what the call has made -/
structure St (c : Cx g d) (news : List (Addr × Obj)) (m : Str → Option Value) (h : Heap) : Prop where
  F : Fr c.h₀ c.L h m
  N : News c.h₀ c.L h news
noncomputable def Sub (a b : List (Addr × Obj)) : Prop := ∀ p ∈ a, p ∈ b
theorem Sub.rfl {a : List (Addr × Obj)} : Sub a a := fun _ h => h
theorem Sub.trans {a b c : List (Addr × Obj)} (h : Sub a b) (k : Sub b c) : Sub a c := fun p q => k p (h p q)

/-- what is wanted behind an expression -/
noncomputable def Kt (c : Cx g d) (news : List (Addr × Obj)) (m : Str → Option Value) (s : Shared) (P : V → Prop) (Q : Value → Shared → Prop) : Prop :=
  ∀ v x news' h' tk', P x → R c.h₀ news' v x → Sub news news' → St c news' m h' → Q v { s with heap := h', toks := tk' }
noncomputable def KtB (c : Cx g d) (news : List (Addr × Obj)) (m : Str → Option Value) (s : Shared) (P : Bool → Prop) (Q : Bool → Shared → Prop) : Prop :=
  ∀ b news' h' tk', P b → Sub news news' → St c news' m h' → Q b { s with heap := h', toks := tk' }
noncomputable def KtL (c : Cx g d) (news : List (Addr × Obj)) (m : Str → Option Value) (s : Shared) (P : List V → Prop) (Q : List Value → Shared → Prop) : Prop :=
  ∀ vs xs news' h' tk', P xs → RL c.h₀ news' xs vs → Sub news news' → St c news' m h' → Q vs { s with heap := h', toks := tk' }

/-- the contract of what is called -/
noncomputable def Con (g : Gl) (d : Nat) (fv : Value) (xs : List V) (r : V) : Prop :=
  ∀ (c : Cx g d) (news : List (Addr × Obj)) (m : Str → Option Value) (s : Shared) (ws : List Value) (Q : Value → Shared → Prop),
    St c news m s.heap → RL c.h₀ news xs ws → Kt c news m s (· = r) Q → wpAny (W g) c.A (call fv ws) Q noE s

noncomputable def Cx.less (c : Cx g d) {e : Nat} (h : e ≤ d) : Cx g e := { c with hd := Nat.lt_of_le_of_lt (Nat.add_le_add_left h _) c.hd, hu := Nat.lt_of_le_of_lt (Nat.add_le_add_left (Nat.mul_le_mul_left 8 h) _) c.hu }
theorem Con.more {e : Nat} {fv : Value} {xs : List V} {r : V} (h : e ≤ d) (k : Con g e fv xs r) : Con g d fv xs r :=
  fun c news m s ws Q F r' kt => k (c.less h) news m s ws Q ⟨F.F, F.N⟩ r' fun v x nw h' tk hp hr hs S => kt v x nw h' tk hp hr hs ⟨S.F, S.N⟩

/-- a name that stands for a def (or a built-in) with a contract -/
inductive FnAt (g : Gl) (d : Nat) (x : Str) (sp : List V → V → Prop) : Prop
  | fn (a : Addr) (hn : nsIn g.K mainGlobals x = some (some (.ref a))) (hk : keepIn g.K (.ref a) = true) (hc : ∀ xs r, sp xs r → Con g d (.ref a) xs r)
  | bi (id : String) (hn : nsIn g.K mainGlobals x = some none) (hb : bootBuiltins x = some (.builtin id)) (hx : x ≠ "__name__") (hc : ∀ xs r, sp xs r → Con g d (.builtin id) xs r)
  | ty (t : String) (hn : nsIn g.K mainGlobals x = some none) (hb : bootBuiltins x = some (.type t)) (hx : x ≠ "__name__") (hc : ∀ xs r, sp xs r → Con g d (.type t) xs r)

structure FnOk (g : Gl) (d : Nat) (sc : Scope) (f : Fn) : Prop where
  gl : sc.names.lookup f.name = some .globalImplicit
  db : (f.name == ("__debug__" : Str)) = false
  at_ : FnAt g d f.name f.spec
noncomputable def LocOk (sc : Scope) (ρ : Rho) : Prop := ∀ y ∈ ρ.map (·.1), sc.names.lookup y = some .local ∧ (y == ("__debug__" : Str)) = false
noncomputable def Ag (c : Cx g d) (news : List (Addr × Obj)) (ρ : Rho) (m : Str → Option Value) : Prop := ∀ x v, lkp ρ x = some v → ∃ u, m x = some u ∧ R c.h₀ news u v
/-- a name that stands for a written value -/
structure CoOk (g : Gl) (sc : Scope) (x : Str) (v : V) : Prop where
  gl : sc.names.lookup x = some .globalImplicit
  db : (x == ("__debug__" : Str)) = false
  at_ : ∃ u, nsIn g.K mainGlobals x = some (some u) ∧ ∀ h news, R h news u v
/-- an expression that a lemma of its own serves -/
noncomputable def OrOk (g : Gl) (d : Nat) (sc : Scope) (e : Expr) (sp : Rho → V → Prop) : Prop := ∀ (c : Cx g d) news ρ m s v Q, c.cs = sc → sp ρ v → LocOk sc ρ → St c news m s.heap → Ag c news ρ m → Kt c news m s (· = v) Q → wpAny (W g) c.A (eval e c.env) Q noE s
structure GOk (g : Gl) (d : Nat) (sc : Scope) (T : Tb) : Prop where
  fns : ∀ f ∈ T.fns, FnOk g d sc f
  cons : ∀ p ∈ T.cons, CoOk g sc p.1 p.2
  orc : ∀ o ∈ T.orc, OrOk g d sc o.1 o.2
theorem R.sub {h : Heap} {news news' : List (Addr × Obj)} {v : Value} {x : V} (r : R h news v x) (k : Sub news news') : R h news' v x := R.mono (fun _ _ q => q) k r

variable {c : Cx g d} {news : List (Addr × Obj)} {m : Str → Option Value} {s : Shared} {G : Tb} {ρ : Rho} {n : Nat}
theorem Ag.sub {news' : List (Addr × Obj)} (a : Ag c news ρ m) (h : Sub news news') : Ag c news' ρ m :=
  fun x v e => (a x v e).elim fun u q => ⟨u, q.1, q.2.sub h⟩
theorem LocOk.same {sc : Scope} {ρ ρ' : Rho} (h : LocOk sc ρ) (e : ρ'.map (·.1) = ρ.map (·.1)) : LocOk sc ρ' := by unfold LocOk; rw [e]; exact h

theorem plain_arg {e : Expr} (h : plainE e = true) : argE e = true := by
  cases e <;> first | rfl | exact Bool.noConfusion h
theorem plain_args {es : List Expr} (h : es.all plainE = true) : es.all argE = true := List.all_eq_true.mpr fun e he => plain_arg (List.all_eq_true.mp h e he)
theorem plain_star {e : Expr} {r : List Expr} {env : Env} (h : argE e = true) : starEach (e :: r) env = (false, eval e env) :: starEach r env := by
  cases e <;> first | rfl | exact Bool.noConfusion h
theorem plain_any {es : List Expr} {env : Env} {pos : Pos} (h : es.all argE = true) : (backTo pos (starEach es env)).any (·.1) = false := by
  induction es with
  | nil => rfl
  | cons e r ih =>
    have h' := Bool.and_eq_true_iff.mp h
    rw [plain_star h'.1]
    exact ih h'.2

noncomputable def SE (c : Cx g d) (G : Tb) (n : Nat) : Prop := ∀ e ρ P news m s Q, (wp G n).E e ρ P → LocOk c.cs ρ → St c news m s.heap → Ag c news ρ m → Kt c news m s P Q → wpAny (W g) c.A (eval e c.env) Q noE s
noncomputable def SV (c : Cx g d) (G : Tb) (n : Nat) : Prop := ∀ op es ρ P news m s Q pos, (wp G n).V op es ρ P → LocOk c.cs ρ → St c news m s.heap → Ag c news ρ m → Kt c news m s P Q → wpAny (W g) c.A (boolOp pos op (evalEach es c.env)) Q noE s
noncomputable def SL (c : Cx g d) (G : Tb) (n : Nat) : Prop := ∀ es ρ P news m s Q pos, es.all argE = true → (wp G n).L es ρ P → LocOk c.cs ρ → St c news m s.heap → Ag c news ρ m → KtL c news m s P Q → wpAny (W g) c.A (spliced (backTo pos (starEach es c.env))) Q noE s
noncomputable def SC (c : Cx g d) (G : Tb) (n : Nat) : Prop := ∀ l op r ρ P news m s Q, (wp G n).C l op r ρ P → LocOk c.cs ρ → St c news m s.heap → Ag c news ρ m → KtB c news m s P (fun b => Q (.bool b)) →
  wpAny (W g) c.A (eval l c.env) (fun a s₁ => wpAny (W g) c.A (eval r c.env) (fun b s₂ => wpAny (W g) c.A (compareOp op a b) Q noE s₂) noE s₁) noE s
noncomputable def SB (c : Cx g d) (G : Tb) (n : Nat) : Prop := ∀ e ρ P news m s Q, (wp G n).B e ρ P → LocOk c.cs ρ → St c news m s.heap → Ag c news ρ m → KtB c news m s P Q → wpAny (W g) c.A (isTrue e c.env (eval e c.env)) Q noE s
noncomputable def SA (c : Cx g d) (G : Tb) (n : Nat) : Prop := ∀ op es ρ P news m s Q, (wp G n).A op es ρ P → LocOk c.cs ρ → St c news m s.heap → Ag c news ρ m → KtB c news m s P Q → wpAny (W g) c.A (allTrue op es c.env) Q noE s

theorem Kt.step {P : V → Prop} {Q : Value → Shared → Prop} {news' : List (Addr × Obj)} {h' : Heap} {tk : Nat} (k : Kt c news m s P Q) (hn : Sub news news') : Kt c news' m { s with heap := h', toks := tk } P Q :=
  fun v x nw h'' tk'' hp hr hs S => k v x nw h'' tk'' hp hr (hn.trans hs) S
theorem KtB.step {P : Bool → Prop} {Q : Bool → Shared → Prop} {news' : List (Addr × Obj)} {h' : Heap} {tk : Nat} (k : KtB c news m s P Q) (hn : Sub news news') : KtB c news' m { s with heap := h', toks := tk } P Q :=
  fun b nw h'' tk'' hp hs S => k b nw h'' tk'' hp (hn.trans hs) S

/-- two expressions, one behind the other -/
theorem two_s (hE : SE c G n) {l r : Expr} {P : V → V → Prop} {Q : Value → Value → Shared → Prop} (hp : (wp G n).E l ρ fun a => (wp G n).E r ρ fun b => P a b) (hl : LocOk c.cs ρ) (S : St c news m s.heap) (a : Ag c news ρ m)
    (k : ∀ u v x y nw h' tk, P x y → R c.h₀ nw u x → R c.h₀ nw v y → Sub news nw → St c nw m h' → Q u v { s with heap := h', toks := tk }) :
    wpAny (W g) c.A (eval l c.env) (fun a s₁ => wpAny (W g) c.A (eval r c.env) (fun b s₂ => Q a b s₂) noE s₁) noE s :=
  hE l ρ _ news m s _ hp hl S a fun _ _ _ _ _ hp1 hr1 hs1 S1 => hE r ρ _ _ m _ _ hp1 hl S1 (a.sub hs1) fun _ _ _ _ _ hp2 hr2 hs2 S2 => k _ _ _ _ _ _ _ hp2 (hr1.sub hs2) hr2 (hs1.trans hs2) S2

theorem bok {b : Bool} {p : Prop} (h : Bool.casesOn (motive := fun _ => Prop) b False p) : b = true ∧ p := by
  cases b
  · exact h.elim
  · exact ⟨rfl, h⟩
theorem bno {b : Bool} {p : Prop} (h : Bool.casesOn (motive := fun _ => Prop) b p False) : b = false ∧ p := by
  cases b
  · exact ⟨rfl, h⟩
  · exact h.elim
theorem sC_gen (hE : SE c G n) {l r : Expr} {op : CmpOp} {P : Bool → Prop} {Q : Value → Shared → Prop} (hp : (wp G n).E l ρ fun a => (wp G n).E r ρ fun b => cmpP op a b P) (hl : LocOk c.cs ρ) (S : St c news m s.heap) (a : Ag c news ρ m) (k : KtB c news m s P (fun b => Q (.bool b))) :
    wpAny (W g) c.A (eval l c.env) (fun a s₁ => wpAny (W g) c.A (eval r c.env) (fun b s₂ => wpAny (W g) c.A (compareOp op a b) Q noE s₂) noE s₁) noE s :=
  two_s (Q := fun a b s₂ => wpAny (W g) c.A (compareOp op a b) Q noE s₂) hE hp hl S a fun _ _ _ _ _ _ _ hp2 hr1 hr2 hs S2 => cmp_s hp2 hr1 hr2 S2.N c.units fun b tk hb => k b _ _ tk hb hs S2

theorem sC_step (hE : SE c G n) (hL : SL c G n) : SC c G (n + 1) := by
  intro l op r ρ P news m s Q hp hl S a k
  cases r with
  | Tuple es ti pos =>
    have ⟨hst, hp⟩ := bok (b := es.all plainE) hp
    refine hE l ρ _ news m s _ hp hl S a fun u x news1 h1 tk1 hp1 hr1 hs1 S1 => Tuple_ (hL es ρ _ news1 m _ _ _ (plain_args hst) hp1 hl S1 (a.sub hs1) fun vs xs news2 h2 tk2 hp2 hr2 hs2 S2 => ?_)
    have ⟨hle, hp2⟩ := bok (b := Nat.ble xs.length 100) hp2
    refine newTuple_N S2.F S2.N (fun h3 F3 N3 => in_s hp2 (hr1.sub hs2) (News.isTup N3 (.head _)) hr2 fun b hb => k b _ h3 tk2 hb (fun p q => .tail _ (hs2 p (hs1 p q))) ⟨F3, N3⟩) ?_
    rw [hr2.len, sizeLine_eq]
    exact Nat.le_trans (Nat.le_of_ble_eq_true hle) (Nat.le_of_ble_eq_true rfl)
  | BoolOp | BinOp | UnaryOp | IfExp | Compare | Call | Constant | Attribute | Subscript | Name | List => exact sC_gen hE hp hl S a k
  | _ => exact hp.elim
theorem wpC_marks {l : Expr} {op : CmpOp} {r : Expr} {P : Bool → Prop} (h : (wp G n).C l op r ρ P) : behindInMarks op r = false := by
  cases n with
  | zero => exact h.elim
  | succ n => cases r <;> first | rfl | exact h.elim

theorem sL_step (hE : SE c G n) (hL : SL c G n) : SL c G (n + 1) := by
  intro es ρ P news m s Q pos hst hp hl S a k
  cases es with
  | nil => exact Calls.spliced_nil (k [] [] news s.heap s.toks hp rfl .rfl S)
  | cons e rest =>
    have h' := Bool.and_eq_true_iff.mp hst
    rw [plain_star h'.1]
    exact Calls.spliced_cons (hE e ρ _ news m s _ hp hl S a fun u x news1 h1 tk1 hp1 hr1 hs1 S1 =>
      hL rest ρ _ news1 m _ _ _ h'.2 hp1 hl S1 (a.sub hs1) fun vs xs news2 h2 tk2 hp2 hr2 hs2 S2 => k _ (x :: xs) news2 h2 tk2 hp2 ⟨u, vs, rfl, hr1.sub hs2, hr2⟩ (hs1.trans hs2) S2)

theorem sA_step (hB : SB c G n) (hA : SA c G n) : SA c G (n + 1) := by
  intro op es ρ P news m s Q hp hl S a k
  cases es with
  | nil => exact wpAny_pure (k _ news s.heap s.toks hp .rfl S)
  | cons x rest =>
    show wpAny _ _ (isTrue x c.env (eval x c.env) >>= fun b => _) _ _ _
    refine wpAny_bind (hB x ρ _ news m s _ hp hl S a fun b news1 h1 tk1 hp1 hs1 S1 => ?_)
    cases op <;> cases b
    · exact wpAny_pure (k false news1 h1 tk1 hp1 hs1 S1)
    · exact hA .And rest ρ P news1 m _ _ hp1 hl S1 (a.sub hs1) (k.step hs1)
    · exact hA .Or rest ρ P news1 m _ _ hp1 hl S1 (a.sub hs1) (k.step hs1)
    · exact wpAny_pure (k true news1 h1 tk1 hp1 hs1 S1)

theorem boP_inv {h : Heap} {P : Bool → Prop} {v : Value} {x : V} (hp : boP P x) (hr : R h news v x) : ∃ b, v = .bool b ∧ P b := by
  cases x with
  | bool b => exact ⟨b, hr, hp⟩
  | _ => exact hp.elim
theorem sV_step (hE : SE c G n) (hV : SV c G n) : SV c G (n + 1) := by
  intro op es ρ P news m s Q pos hp hl S a k
  cases es with
  | nil => exact hp.elim
  | cons x rest =>
    cases rest with
    | nil => exact hE x ρ P news m s Q hp hl S a k
    | cons y rest =>
      show wpAny _ _ (eval x c.env >>= fun b => _) _ _ _
      refine wpAny_bind (hE x ρ _ news m s _ hp hl S a fun v z news1 h1 tk1 hp1 hr1 hs1 S1 => ?_)
      obtain ⟨b, rfl, hp1⟩ := boP_inv hp1 hr1
      refine wpAny_bind (wpAny_standAt (wpAny_bind (wpAny_holding (wpAny_truthy_bool ?_))))
      cases op <;> cases b
      · exact wpAny_pure (k _ (.bool false) news1 h1 tk1 hp1 rfl hs1 S1)
      · exact hV .And (y :: rest) ρ P news1 m _ _ pos hp1 hl S1 (a.sub hs1) (k.step hs1)
      · exact hV .Or (y :: rest) ρ P news1 m _ _ pos hp1 hl S1 (a.sub hs1) (k.step hs1)
      · exact wpAny_pure (k _ (.bool true) news1 h1 tk1 hp1 rfl hs1 S1)

theorem sB_val (hE : SE c G n) {e : Expr} {P : Bool → Prop} {Q : Bool → Shared → Prop} (he : isTrue e c.env (eval e c.env) = (do let v ← eval e c.env; standAt e.pos; holding [v] (truthy v))) (hp : (wp G n).E e ρ (boP P)) (hl : LocOk c.cs ρ) (S : St c news m s.heap) (a : Ag c news ρ m) (k : KtB c news m s P Q) :
    wpAny (W g) c.A (isTrue e c.env (eval e c.env)) Q noE s := by
  refine wpAny_isTrue_value (hE e ρ _ news m s _ hp hl S a fun v x news1 h1 tk1 hp1 hr1 hs1 S1 => ?_) he
  obtain ⟨b, rfl, hp1⟩ := boP_inv hp1 hr1
  exact wpAny_truthy_bool (k b news1 h1 tk1 hp1 hs1 S1)

theorem sB_chain (hE : SE c G n) {l r r2 : Expr} {o o2 : CmpOp} {pos : Pos} {P : Bool → Prop} {Q : Bool → Shared → Prop} (hm : behindInMarks o2 r2 = false)
    (hp : (wp G n).E l ρ fun a => (wp G n).E r ρ fun b => cmpP o a b fun c => Bool.casesOn (motive := fun _ => Prop) c (P false) ((wp G n).E r2 ρ fun d => cmpP o2 b d P)) (hl : LocOk c.cs ρ) (S : St c news m s.heap) (a : Ag c news ρ m) (k : KtB c news m s P Q) :
    wpAny (W g) c.A (isTrue (.Compare l [o, o2] [r, r2] pos) c.env (eval (.Compare l [o, o2] [r, r2] pos) c.env)) Q noE s := by
  refine isTrue_chain (hE l ρ _ news m s _ hp hl S a fun u x news1 h1 tk1 hp1 hr1 hs1 S1 => test_link (hE r ρ _ news1 m _ _ hp1 hl S1 (a.sub hs1) fun v y news2 h2 tk2 hp2 hr2 hs2 S2 =>
    cmp_s hp2 (hr1.sub hs2) hr2 S2.N c.units fun b tk hb => wpAny_truthy_bool ?_)) hm
  cases b with
  | false => exact k false news2 h2 tk hb (hs1.trans hs2) S2
  | true =>
    exact test_last (hE r2 ρ _ news2 m _ _ hb hl S2 ((a.sub hs1).sub hs2) fun w z news3 h3 tk3 hp3 hr3 hs3 S3 =>
      cmp_s hp3 (hr2.sub hs3) hr3 S3.N c.units fun b tk hb => wpAny_truthy_bool (k b news3 h3 tk hb ((hs1.trans hs2).trans hs3) S3))

theorem sB_step (hE : SE c G n) (hC : SC c G n) (hB : SB c G n) (hA : SA c G n) : SB c G (n + 1) := by
  intro e ρ P news m s Q hp hl S a k
  cases e with
  | UnaryOp op x pos =>
    cases op with
    | Not => exact isTrue_not (hB x ρ _ news m s _ hp hl S a fun b news1 h1 tk1 hp1 hs1 S1 => k _ news1 h1 tk1 hp1 hs1 S1)
    | _ => exact hp.elim
  | BoolOp op es pos => exact hA op es ρ P news m s Q hp hl S a k
  | Call f as kw pos => exact sB_val hE rfl hp hl S a k
  | Name x pos => exact sB_val hE rfl hp hl S a k
  | Compare l ops rs pos =>
    cases ops with
    | nil => exact hp.elim
    | cons o ops =>
      cases rs with
      | nil => exact hp.elim
      | cons r rs =>
        cases ops with
        | nil =>
          cases rs with
          | nil => exact wpAny_isTrue_Compare1 (hC l o r ρ P news m s _ hp hl S a fun b news1 h1 tk1 hp1 hs1 S1 => wpAny_truthy_bool (k b news1 h1 tk1 hp1 hs1 S1)) (wpC_marks hp)
          | cons => exact hp.elim
        | cons o2 ops =>
          cases rs with
          | nil => exact hp.elim
          | cons r2 rs =>
            cases ops with
            | cons => exact hp.elim
            | nil =>
              cases rs with
              | cons => exact hp.elim
              | nil =>
                have ⟨hm, hp⟩ := bno (b := behindInMarks o2 r2) hp
                exact sB_chain hE hm hp hl S a k
  | _ => exact hp.elim

theorem obv {α : Type} {o : Option α} {p : α → Prop} (h : Option.casesOn (motive := fun _ => Prop) o False p) : ∃ v, o = some v ∧ p v := by
  cases o with
  | none => exact h.elim
  | some v => exact ⟨v, rfl, h⟩

theorem sE_const {k0 : Nat} {pos : Pos} {x : Const} {P : V → Prop} {Q : Value → Shared → Prop} (hp : constP P x) (S : St c news m s.heap) (k : Kt c news m s P Q) : wpAny (W g) c.A (eval (.Constant x k0 pos) c.env) Q noE s := by
  cases x with
  | int i => exact wpAny_Constant_int (k _ _ news s.heap _ hp ⟨_, rfl⟩ .rfl S)
  | bool b => exact wpAny_Constant_bool (k _ _ news s.heap s.toks hp rfl .rfl S)
  | none => exact wpAny_Constant_none (k _ _ news s.heap s.toks hp rfl .rfl S)
  | str x => exact wpAny_Constant_str (k _ _ news s.heap _ hp ⟨_, rfl⟩ .rfl S)
  | bytes l => exact Constant_bytes (k _ _ news s.heap _ hp ⟨_, _, rfl, KBw.ints_list l⟩ .rfl S)
  | _ => exact hp.elim

theorem sE_un (hE : SE c G n) {op : UnaryOp} {x : Expr} {pos : Pos} {P : V → Prop} {Q : Value → Shared → Prop} (hp : (wp G n).E x ρ fun a => unP P a op) (hl : LocOk c.cs ρ) (S : St c news m s.heap) (a : Ag c news ρ m) (k : Kt c news m s P Q) :
    wpAny (W g) c.A (eval (.UnaryOp op x pos) c.env) Q noE s := by
  refine wpAny_UnaryOp (hE x ρ _ news m s _ hp hl S a fun u y news1 h1 tk1 hp1 hr1 hs1 S1 => ?_)
  cases op with
  | USub =>
    cases y with
    | int i =>
      obtain ⟨t, rfl⟩ := hr1
      walk1
      exact k _ _ news1 h1 _ hp1 ⟨_, rfl⟩ hs1 S1
    | _ => exact hp1.elim
  | Not =>
    cases y with
    | bool b =>
      cases hr1
      walk1
      exact wpAny_truthy_bool (k _ _ news1 h1 tk1 hp1 rfl hs1 S1)
    | _ => exact hp1.elim
  | _ => exact hp1.elim

theorem sE_call (hG : GOk g d c.cs G) (hL : SL c G n) {f : Str} {pf pos : Pos} {e0 : Expr} {args : List Expr} {sp : List V → V → Prop} {P : V → Prop} {Q : Value → Shared → Prop} (hf : lkf G.fns f = some sp) (hst : (e0 :: args).all argE = true)
    (hp : (wp G n).L (e0 :: args) ρ fun vs => ∃ r, sp vs r ∧ P r) (hl : LocOk c.cs ρ) (S : St c news m s.heap) (a : Ag c news ρ m) (k : Kt c news m s P Q) :
    wpAny (W g) c.A (eval (.Call (.Name f pf) (e0 :: args) [] pos) c.env) Q noE s := by
  obtain ⟨fn, hm, hname, hspec⟩ := lkf_mem hf
  obtain ⟨hgl, hdb, hat⟩ := hG.fns fn hm
  subst hname hspec
  show wpAny _ _ (eval (.Name fn.name pf) c.env >>= fun fv => callWith pos fv [] (backTo pos (starEach (e0 :: args) c.env)) (backToKw pos (keywordEach [] c.env))) _ _ _
  refine wpAny_bind ?_
  have tail : ∀ fv : Value, (∀ xs r, fn.spec xs r → Con g d fv xs r) → wpAny (W g) c.A (spliced (backTo pos (starEach (e0 :: args) c.env))) (fun vs s₁ => g.K.In s₁.heap ∧ wpAny (W g) c.A (call fv ([] ++ vs)) Q noE s₁) noE s :=
    fun fv hc => hL _ ρ _ news m s _ pos hst hp hl S a fun vs xs news1 h1 tk1 hp1 hr1 hs1 S1 => hp1.elim fun r q => ⟨c.X.keeps S1.F.keep, hc xs r q.1 c news1 m _ vs Q S1 hr1 fun v x nw h2 tk2 hx hr hs S2 => k v x nw h2 tk2 (hx ▸ q.2) hr (hs1.trans hs) S2⟩
  have hcons := plain_star (r := args) (env := c.env) (Bool.and_eq_true_iff.mp hst).1
  cases hat with
  | fn ad hn hk' hc => exact nameX_K S.F c.X (topRead_of c.T) hn (callWith_K c.X hk' (tail _ hc) hcons (plain_any (Bool.and_eq_true_iff.mp hst).2)) c.hk hgl hdb
  | bi id hn hb hx hc =>
    refine nameX_B S.F c.X (topRead_of c.T) hn hb hx (Calls.callWith_builtin (plain_any hst) ?_) c.hk hgl hdb
    have := tail _ hc
    rw [hcons] at this ⊢
    exact Calls.evalArgs_plain (wpAny_mono this (fun _ _ h => h.2) fun _ _ h => h)
  | ty id hn hb hx hc =>
    refine nameX_B S.F c.X (topRead_of c.T) hn hb hx (PySem.callWith_type (plain_any hst) ?_) c.hk hgl hdb
    have := tail _ hc
    rw [hcons] at this ⊢
    exact Calls.evalArgs_plain (wpAny_mono this (fun _ _ h => h.2) fun _ _ h => h)

theorem sE_tri {x y z : V} {vs : List Value} {news1 : List (Addr × Obj)} {h1 : Heap} {tk1 : Nat} {P : V → Prop} {Q : Value → Shared → Prop} (hp : triP x y z P) (hr : RL c.h₀ news1 [x, y, z] vs) (hs : Sub news news1) (S : St c news1 m h1) (k : Kt c news m s P Q) :
    wpAny (W g) c.A (newTuple vs) Q noE { s with heap := h1, toks := tk1 } := by
  cases x with
  | bytes x =>
    cases y with
    | bytes y =>
      cases z with
      | bytes z =>
        obtain ⟨u, _, rfl, hx, v, _, rfl, hy, w, _, rfl, hz, rfl⟩ := hr
        exact newTuple_N S.F S.N (fun h3 F3 N3 => k _ (.tri x y z) _ h3 tk1 hp ⟨_, [u, v, w], rfl, .head _, u, _, rfl, hx, v, _, rfl, hy, w, _, rfl, hz, rfl⟩ (fun p q => .tail _ (hs p q)) ⟨F3, N3⟩) (by rw [sizeLine_eq]; exact Nat.le_of_ble_eq_true rfl)
      | _ => exact hp.elim
    | _ => exact hp.elim
  | _ => exact hp.elim
theorem sE_tup (hL : SL c G n) {es : List Expr} {k0 : Nat} {pos : Pos} {P : V → Prop} {Q : Value → Shared → Prop} (hst : es.all plainE = true) (hp : (wp G n).L es ρ (prP P)) (hl : LocOk c.cs ρ) (S : St c news m s.heap) (a : Ag c news ρ m) (k : Kt c news m s P Q) :
    wpAny (W g) c.A (eval (.Tuple es k0 pos) c.env) Q noE s := by
  refine Tuple_ (hL es ρ _ news m s _ pos (plain_args hst) hp hl S a fun vs xs news1 h1 tk1 hp1 hr1 hs1 S1 => ?_)
  cases xs with
  | nil => exact hp1.elim
  | cons x xs =>
    cases xs with
    | nil => exact hp1.elim
    | cons y xs =>
      cases xs with
      | cons z xs =>
        cases xs with
        | cons => exact hp1.elim
        | nil => exact sE_tri hp1 hr1 hs1 S1 k
      | nil =>
        obtain ⟨u, _, rfl, hx, v, _, rfl, hy, rfl⟩ := hr1
        exact newTuple_N S1.F S1.N (fun h3 F3 N3 => k _ (.pair x y) _ h3 tk1 hp1 ⟨_, u, v, rfl, .head _, hx.sub fun _ h => .tail _ h, hy.sub fun _ h => .tail _ h⟩ (fun p q => .tail _ (hs1 p q)) ⟨F3, N3⟩) (by rw [sizeLine_eq]; exact Nat.le_of_ble_eq_true rfl)

theorem obw {α : Type} {o : Option α} {q : Prop} {p : α → Prop} (h : Option.casesOn (motive := fun _ => Prop) o q p) : (∃ v, o = some v ∧ p v) ∨ q := by
  cases o with
  | none => exact .inr h
  | some v => exact .inl ⟨v, rfl, h⟩
theorem bot {b : Bool} {p q : Prop} (e : b = true) (h : Bool.casesOn (motive := fun _ => Prop) b q p) : p := by subst e; exact h
theorem bof {b : Bool} {p q : Prop} (e : b = false) (h : Bool.casesOn (motive := fun _ => Prop) b q p) : q := by subst e; exact h
theorem sE_orc (hG : GOk g d c.cs G) {e : Expr} {P : V → Prop} {Q : Value → Shared → Prop} (hp : orP G e ρ P) (hl : LocOk c.cs ρ) (S : St c news m s.heap) (a : Ag c news ρ m) (k : Kt c news m s P Q) : wpAny (W g) c.A (eval e c.env) Q noE s := by
  obtain ⟨o, ho, rfl, v, hv, hp⟩ := hp
  exact hG.orc o ho c news ρ m s v Q rfl hv hl S a fun u x nw h' tk hx hr hs S' => k u x nw h' tk (hx ▸ hp) hr hs S'
theorem sE_name (hG : GOk g d c.cs G) {x : Str} {pos : Pos} {P : V → Prop} {Q : Value → Shared → Prop} (hp : Option.casesOn (motive := fun _ => Prop) (lkp ρ x) (Option.casesOn (motive := fun _ => Prop) (lkc G.cons x) False P) P) (hl : LocOk c.cs ρ) (S : St c news m s.heap) (a : Ag c news ρ m) (k : Kt c news m s P Q) :
    wpAny (W g) c.A (eval (.Name x pos) c.env) Q noE s := by
  rcases obw hp with ⟨v, hv, hp⟩ | hp
  · obtain ⟨u, hu, hr⟩ := a x v hv
    have := hl x (lkp_mem hv)
    exact nameX_L S.F hu (k _ _ news s.heap s.toks hp hr .rfl S) c.hk this.1 this.2
  · obtain ⟨v, hv, hp⟩ := obv hp
    obtain ⟨h1, h2, u, hn, hr⟩ := hG.cons _ (lkc_mem hv)
    exact nameX_K S.F c.X (topRead_of c.T) hn (k _ _ news s.heap s.toks hp (hr _ _) .rfl S) c.hk h1 h2
theorem sE_call0 (hG : GOk g d c.cs G) (hL : SL c G n) {f : Str} {pf pos : Pos} {kw : List Keyword} {P : V → Prop} {Q : Value → Shared → Prop} (hp : (wp G (n + 1)).E (.Call (.Name f pf) [] kw pos) ρ P) (hl : LocOk c.cs ρ) (S : St c news m s.heap) (a : Ag c news ρ m) (k : Kt c news m s P Q) :
    wpAny (W g) c.A (eval (.Call (.Name f pf) [] kw pos) c.env) Q noE s := by
  cases kw with
  | cons => exact sE_orc hG hp hl S a k
  | nil =>
    rcases obw (o := lkf G.fns f) hp with ⟨sp, hf, hp⟩ | hp
    · obtain ⟨fn, hm, hname, hspec⟩ := lkf_mem hf
      obtain ⟨hgl, hdb, hat⟩ := hG.fns fn hm
      subst hname hspec
      show wpAny _ _ (eval (.Name fn.name pf) c.env >>= fun fv => callWith pos fv [] (backTo pos (starEach [] c.env)) (backToKw pos (keywordEach [] c.env))) _ _ _
      refine wpAny_bind ?_
      obtain ⟨r, hs, hp⟩ := hp
      have kk : Kt c news m s (· = r) Q := fun u x nw h' tk hx hr hs S' => k u x nw h' tk (hx ▸ hp) hr hs S'
      cases hat with
      | fn ad hn hk' hc => exact nameX_K S.F c.X (topRead_of c.T) hn (callWith_K0 (c.X.keeps S.F.keep) hk' (hc [] r hs c news m s [] Q S rfl kk)) c.hk hgl hdb
      | bi id hn hb hx hc => exact nameX_B S.F c.X (topRead_of c.T) hn hb hx (Calls.callWith_builtin rfl (evalArgs_nil3 (hc [] r hs c news m s [] Q S rfl kk))) c.hk hgl hdb
      | ty id hn hb hx hc => exact nameX_B S.F c.X (topRead_of c.T) hn hb hx (PySem.callWith_type rfl (evalArgs_nil3 (hc [] r hs c news m s [] Q S rfl kk))) c.hk hgl hdb
    · exact sE_orc hG hp hl S a k
theorem sE_slice (hE : SE c G n) {v i : Expr} {pos : Pos} {P : V → Prop} {Q : Value → Shared → Prop} (hi : plainE i = false)
    (hp : Expr.casesOn (motive_1 := fun _ => Prop) i (fun _ _ _ => False) (fun _ _ _ => False) (fun _ _ _ _ => False) (fun _ _ _ => False) (fun _ _ _ _ => False) (fun _ _ _ _ => False) (fun _ _ _ => False) (fun _ _ _ => False) (fun _ _ _ _ => False) (fun _ _ _ _ => False) (fun _ _ _ _ _ => False) (fun _ _ _ _ => False) (fun _ _ => False) (fun _ _ => False) (fun _ _ => False) (fun _ _ _ _ => False) (fun _ _ _ _ => False) (fun _ _ _ _ => False) (fun _ _ => False) (fun _ _ _ => False) (fun _ _ _ => False) (fun _ _ _ => False) (fun _ _ => False) (fun _ _ => False) (fun _ _ => False) (fun _ _ _ => False)
      (fun lo hi st _ => Option.casesOn (motive := fun _ => Prop) lo False fun lo => Option.casesOn (motive := fun _ => Prop) hi False fun hi => Option.casesOn (motive := fun _ => Prop) st ((wp G n).E v ρ fun a => (wp G n).E lo ρ fun b => (wp G n).E hi ρ fun c => sliP a b c P) fun _ => False)) (hl : LocOk c.cs ρ) (S : St c news m s.heap) (a : Ag c news ρ m) (k : Kt c news m s P Q) :
    wpAny (W g) c.A (eval (.Subscript v i pos) c.env) Q noE s := by
  cases i with
  | Slice lo hh st p =>
    cases lo with
    | none => exact hp.elim
    | some lo =>
      cases hh with
      | none => exact hp.elim
      | some hh =>
        cases st with
        | some => exact hp.elim
        | none =>
          refine Subscript_ (hE v ρ _ news m s _ hp hl S a fun u x news1 h1 tk1 hp1 hr1 hs1 S1 => ?_)
          show wpAny _ _ (eval lo c.env >>= fun l => holding [l] (eval hh c.env) >>= fun r => holding [l, r] (pure .none) >>= fun z => newFields "slice" [l, r, z]) _ _ _
          refine wpAny_bind (hE lo ρ _ news1 m _ _ hp1 hl S1 (a.sub hs1) fun u2 x2 news2 h2 tk2 hp2 hr2 hs2 S2 => ?_)
          refine wpAny_bind (wpAny_holding (hE hh ρ _ news2 m _ _ hp2 hl S2 ((a.sub hs1).sub hs2) fun u3 x3 news3 h3 tk3 hp3 hr3 hs3 S3 => ?_))
          refine wpAny_bind (wpAny_holding (wpAny_pure ?_))
          refine wpAny_newObj_type ?_ ?_
          · exact sli_s (s := { s with heap := h3, toks := tk3 }) hp3 ((hr1.sub hs2).sub hs3) (hr2.sub hs3) hr3 S3.F S3.N fun v z h4 tk4 hz hrz F4 N4 => k v z news3 h4 tk4 hz hrz ((hs1.trans hs2).trans hs3) ⟨F4, N4⟩
          · exact Nat.le_of_ble_eq_true rfl
  | _ => exact hp.elim
theorem sE_width {x attr : Str} {px pos : Pos} {w : Int} {u : Value} {P : V → Prop} {Q : Value → Shared → Prop} (hu : m x = some u) (hr : R c.h₀ news u (.lim w)) (hp : attr = "width" ∧ P (.int w)) (hx : c.cs.names.lookup x = some .local ∧ (x == ("__debug__" : Str)) = false) (S : St c news m s.heap) (k : Kt c news m s P Q) :
    wpAny (W g) c.A (eval (.Attribute (.Name x px) attr pos) c.env) Q noE s := by
  obtain ⟨rfl, hp⟩ := hp
  obtain ⟨ad, dx, es, n, t, rfl, h1, h2, h3⟩ := hr
  refine Attribute_name (nameX_L S.F hu ?_ c.hk hx.1 hx.2)
  obtain ⟨a, l1, l2, l3, l4⟩ := g.lim
  exact get_own S.F c.X (InstAt.of_news S.N h1 h2) l1 l2 l3 l4 h3 rfl (k _ _ news s.heap _ hp ⟨t, rfl⟩ .rfl S)

theorem R_bysY {ls : List V} : ∀ {ws : List Value} {l : List (List Int)}, RL c.h₀ news ls ws → vBys ls = some l → isYs l ws := by
  induction ls with
  | nil => intro ws l hw e; cases (show ws = [] from hw); cases (Option.some.inj e); exact rfl
  | cons x r ih =>
    intro ws l ⟨v, q, e1, hv, hq⟩ e
    subst e1
    cases x with
    | bytes i =>
      obtain ⟨l', e2, rfl⟩ := Option.map_eq_some_iff.mp (show (vBys r).map (i :: ·) = some l from e)
      exact ⟨v, q, rfl, hv, ih hq e2⟩
    | _ => exact (nomatch (show none = some _ from e))
theorem sE_lis (hL : SL c G n) {es : List Expr} {pos : Pos} {P : V → Prop} {Q : Value → Shared → Prop} (hst : es.all plainE = true) (hp : (wp G n).L es ρ (lsP P)) (hl : LocOk c.cs ρ) (S : St c news m s.heap) (a : Ag c news ρ m) (k : Kt c news m s P Q) :
    wpAny (W g) c.A (eval (.List es pos) c.env) Q noE s := by
  refine List_ (hL es ρ _ news m s _ pos (plain_args hst) hp hl S a fun vs xs news1 h1 tk1 hp1 hr1 hs1 S1 => ?_)
  have hlen : vs.length ≤ 100 := by rw [hr1.len]; exact Nat.le_of_ble_eq_true hp1.1
  refine newList_N S1.F S1.N (fun h3 F3 N3 => ?_) (by rw [sizeLine_eq]; exact Nat.le_trans hlen (Nat.le_of_ble_eq_true rfl))
  have hp2 := hp1.2
  cases hi : vInts xs with
  | some l =>
    rw [hi] at hp2
    exact k _ (.own l) _ h3 tk1 hp2 ⟨_, vs, _, rfl, .head _, R_ints hr1 hi⟩ (fun p q => .tail _ (hs1 p q)) ⟨F3, N3⟩
  | none =>
    rw [hi] at hp2
    cases hb : vBys xs with
    | none => rw [hb] at hp2; exact hp2.elim
    | some l =>
      rw [hb] at hp2
      exact k _ (.seq l) _ h3 tk1 hp2 ⟨_, vs, _, rfl, .head _, R_bysY hr1 hb⟩ (fun p q => .tail _ (hs1 p q)) ⟨F3, N3⟩

theorem sE_step (hG : GOk g d c.cs G) (hE : SE c G n) (hL : SL c G n) (hC : SC c G n) (hB : SB c G n) (hV : SV c G n) : SE c G (n + 1) := by
  intro e ρ P news m s Q hp hl S a k
  cases e with
  | Constant x k0 pos => exact sE_const hp S k
  | Name x pos => exact sE_name hG hp hl S a k
  | BinOp l op r pos => exact wpAny_BinOp (two_s (Q := fun a b s₂ => wpAny (W g) c.A (binaryOp op a b) Q noE s₂) hE hp hl S a fun _ _ _ _ _ _ _ hp2 hr1 hr2 hs S2 => op_s hp2 hr1 hr2 fun v z tk hz hrz => k v z _ _ tk hz hrz hs S2)
  | UnaryOp op x pos => exact sE_un hE hp hl S a k
  | IfExp t x y pos =>
    refine wpAny_IfExp (hB t ρ _ news m s _ hp hl S a fun b news1 h1 tk1 hp1 hs1 S1 => ?_)
    cases b with
    | true => exact hE x ρ P news1 m _ _ hp1 hl S1 (a.sub hs1) (k.step hs1)
    | false => exact hE y ρ P news1 m _ _ hp1 hl S1 (a.sub hs1) (k.step hs1)
  | BoolOp op es pos => exact hV op es ρ P news m s Q pos hp hl S a k
  | Compare l ops rs pos =>
    cases ops with
    | nil => exact hp.elim
    | cons o ops =>
      cases rs with
      | nil => exact hp.elim
      | cons r rs =>
        cases ops with
        | cons => exact hp.elim
        | nil =>
          cases rs with
          | cons => exact hp.elim
          | nil => exact wpAny_Compare1 (hC l o r ρ _ news m s _ hp hl S a fun b news1 h1 tk1 hp1 hs1 S1 => k _ (.bool b) news1 h1 tk1 hp1 rfl hs1 S1) (wpC_marks hp)
  | Call f as kw pos =>
    cases f with
    | Name f pf =>
      cases as with
      | nil => exact sE_call0 hG hL hp hl S a k
      | cons e0 args =>
        cases kw with
        | cons => exact sE_orc hG hp hl S a k
        | nil =>
          rcases obw (o := lkf G.fns f) hp with ⟨sp, hf, hp⟩ | hp
          · have ⟨hst, hp⟩ := bok (b := (e0 :: args).all argE) hp
            exact sE_call hG hL hf hst hp hl S a k
          · exact sE_orc hG hp hl S a k
    | _ => exact sE_orc hG hp hl S a k
  | Attribute v nm pos =>
    cases v with
    | Name x px =>
      obtain ⟨v, hv, hp⟩ := obv (o := lkp ρ x) hp
      obtain ⟨u, hu, hr⟩ := a x v hv
      cases v with
      | lim w => exact sE_width hu hr hp (hl x (lkp_mem hv)) S k
      | _ => exact hp.elim
    | _ => exact hp.elim
  | ListComp _ _ _ _ => exact sE_orc hG hp hl S a k
  | List es pos =>
    have ⟨hst, hp⟩ := bok (b := es.all plainE) hp
    exact sE_lis hL hst hp hl S a k
  | Subscript v i pos =>
    cases hd : isD v with
    | true => exact sE_orc hG (bot hd hp) hl S a k
    | false =>
    replace hp := bof hd hp
    cases hi : plainE i with
    | true =>
      have hp := bot hi hp
      exact Subscript_ (two_s (Q := fun a b s₂ => wpAny (W g) c.A (subscriptTail v i a b) Q noE s₂) hE hp hl S a fun _ _ _ _ _ _ _ hp2 hr1 hr2 hs S2 => sub_s hp2 hr1 hr2 hi S2.F S2.N fun v z tk hz hrz => k v z _ _ tk hz hrz hs S2)
    | false => exact sE_slice hE hi (bof hi hp) hl S a k
  | Tuple es k0 pos =>
    have ⟨hst, hp⟩ := bok (b := es.all plainE) hp
    exact sE_tup hL hst hp hl S a k
  | _ => exact hp.elim

theorem s_all (hG : GOk g d c.cs G) (n : Nat) : SE c G n ∧ SV c G n ∧ SL c G n ∧ SC c G n ∧ SB c G n ∧ SA c G n := by
  induction n with
  | zero => exact ⟨fun _ _ _ _ _ _ _ h => h.elim, fun _ _ _ _ _ _ _ _ _ h => h.elim, fun _ _ _ _ _ _ _ _ _ h => h.elim, fun _ _ _ _ _ _ _ _ _ h => h.elim, fun _ _ _ _ _ _ _ h => h.elim, fun _ _ _ _ _ _ _ _ h => h.elim⟩
  | succ n ih => exact ih.elim fun hE q => q.elim fun hV q => q.elim fun hL q => q.elim fun hC q => q.elim fun hB hA => ⟨sE_step hG hE hL hC hB hV, sV_step hE hV, sL_step hE hL, sC_step hE hL, sB_step hE hC hB hA, sA_step hB hA⟩

/-- what is wanted behind statements -/
noncomputable def FR (h₀ : Heap) (news : List (Addr × Obj)) (f : Flow) (x : Fl) : Prop := Fl.casesOn (motive := fun _ => Prop) x (f = .next) (f = .brk) fun x => ∃ v, f = .ret v ∧ R h₀ news v x
structure Kp (c : Cx g d) (news : List (Addr × Obj)) (ρ : Rho) (news' : List (Addr × Obj)) (ρ' : Rho) (m' : Str → Option Value) (h' : Heap) : Prop where
  keys : ρ'.map (·.1) = ρ.map (·.1)
  ag : Ag c news' ρ' m'
  sub : Sub news news'
  st : St c news' m' h'
noncomputable def KtS (c : Cx g d) (news : List (Addr × Obj)) (ρ : Rho) (s : Shared) (P : Fl → Rho → Prop) (Q : Flow → Shared → Prop) : Prop :=
  ∀ fl x ρ' m' news' h' tk', P x ρ' → FR c.h₀ news' fl x → Kp c news ρ news' ρ' m' h' → Q fl { s with heap := h', toks := tk' }
noncomputable def SS (c : Cx g d) (G : Tb) (n : Nat) : Prop := ∀ ss ρ P news m s Q, wpx G n ss ρ P → LocOk c.cs ρ → St c news m s.heap → Ag c news ρ m → KtS c news ρ s P Q → wpAny (W g) c.A (execs ss c.env) Q noE s
theorem Kp.trans {news1 news2 : List (Addr × Obj)} {ρ1 ρ2 : Rho} {m1 m2 : Str → Option Value} {h1 h2 : Heap} (a : Kp c news ρ news1 ρ1 m1 h1) (b : Kp c news1 ρ1 news2 ρ2 m2 h2) : Kp c news ρ news2 ρ2 m2 h2 := ⟨b.keys.trans a.keys, b.ag, a.sub.trans b.sub, b.st⟩
theorem KtS.step {P : Fl → Rho → Prop} {Q : Flow → Shared → Prop} {news' : List (Addr × Obj)} {ρ' : Rho} {m' : Str → Option Value} {h' : Heap} {tk : Nat} (k : KtS c news ρ s P Q) (hk : Kp c news ρ news' ρ' m' h') : KtS c news' ρ' { s with heap := h', toks := tk } P Q :=
  fun fl x ρ'' m' nw h'' tk'' hp hr q => k fl x ρ'' m' nw h'' tk'' hp hr (hk.trans q)

theorem store_s {x : Str} {v : Value} {y : V} {Q : Unit → Shared → Prop} (hx : has ρ x = true) (hl : LocOk c.cs ρ) (S : St c news m s.heap) (a : Ag c news ρ m) (hr : R c.h₀ news v y)
    (k : ∀ h' m', Kp c news ρ news (put ρ x y) m' h' → Q () { s with heap := h', toks := s.toks + 1 }) : wpAny (W g) c.A (storeName c.env x v) Q noE s := by
  refine storeX_L S.F S.N (fun h' F' N' => k h' _ ⟨put_keys, fun z w hz => ?_, .rfl, ⟨F', N'⟩⟩) c.hk (hl x (has_mem hx)).1
  rcases lkp_put hz with ⟨rfl, rfl⟩ | ⟨hne, hz⟩
  · exact ⟨v, if_pos rfl, hr⟩
  · exact (a z w hz).elim fun u q => ⟨u, (if_neg hne).trans q.1, q.2⟩

theorem asg_one (hE : SE c G n) (hS : SS c G n) {e : Expr} {x : Str} {px pos : Pos} {rest : List Stmt} {P : Fl → Rho → Prop} {Q : Flow → Shared → Prop} (hp : stoP (wp G n) (wpx G n rest) ρ P e x) (hl : LocOk c.cs ρ) (S : St c news m s.heap) (a : Ag c news ρ m) (k : KtS c news ρ s P Q) :
    wpAny (W g) c.A (execs (.Assign [.Name x px] e pos :: rest) c.env) Q noE s := by
  obtain ⟨v, hv, hp⟩ := hp
  have ⟨hc, hp⟩ := bok (b := has ρ x && plainE e) hp
  have ⟨hx, he⟩ := Bool.and_eq_true_iff.mp hc
  refine wpAny_execs_cons (wpAny_Assign_Name (hE e ρ _ news m s _ hv hl S a fun u y news1 h1 tk1 hy hr1 hs1 S1 => ?_) ?_)
  · subst hy
    exact store_s hx hl S1 (a.sub hs1) hr1 fun h2 m2 q => hS rest _ P news1 m2 _ Q hp (hl.same q.keys) q.st q.ag (k.step ⟨q.keys, q.ag, hs1, q.st⟩)
  · cases e <;> first | rfl | exact Bool.noConfusion he

theorem RL.sub {h : Heap} {news news' : List (Addr × Obj)} (k : Sub news news') {vs : List V} : ∀ {ws : List Value}, RL h news vs ws → RL h news' vs ws := by
  induction vs with
  | nil => exact fun r => r
  | cons v r ih => intro ws q; obtain ⟨w, q, e, h1, h2⟩ := q; exact ⟨w, q, e, h1.sub k, ih h2⟩
theorem RL.app {h : Heap} {news : List (Addr × Obj)} {vs vs' : List V} : ∀ {ws ws' : List Value}, RL h news vs ws → RL h news vs' ws' → RL h news (vs ++ vs') (ws ++ ws') := by
  induction vs with
  | nil => intro ws ws' e r; cases (show ws = [] from e); exact r
  | cons v r ih => intro ws ws' q r'; obtain ⟨w, q, rfl, h1, h2⟩ := q; exact ⟨w, q ++ ws', rfl, h1, ih h2 r'⟩
theorem RL.rev {h : Heap} {news : List (Addr × Obj)} {vs : List V} : ∀ {ws : List Value}, RL h news vs ws → RL h news vs.reverse ws.reverse := by
  induction vs with
  | nil => intro ws e; cases (show ws = [] from e); exact rfl
  | cons v r ih =>
    intro ws q
    obtain ⟨w, q, rfl, h1, h2⟩ := q
    rw [List.reverse_cons, List.reverse_cons]
    exact (ih h2).app ⟨w, [], rfl, h1, rfl⟩
theorem put_puts {x : Str} {u : V} {xs : List Str} : ∀ {ρ : Rho} {vs : List V}, x ∉ xs → puts (put ρ x u) xs vs = put (puts ρ xs vs) x u := by
  induction xs with
  | nil => intros; rfl
  | cons y r ih =>
    intro ρ vs h
    cases vs with
    | nil => rfl
    | cons v vs =>
      have hy : ¬ x = y := fun e => h (e ▸ .head _)
      show puts (put (put ρ x u) y v) r vs = put (puts (put ρ y v) r vs) x u
      rw [put_comm hy]
      exact ih fun q => h (.tail _ q)
theorem puts_app {xs ys : List Str} : ∀ {ρ : Rho} {vs us : List V}, vs.length = xs.length → puts ρ (xs ++ ys) (vs ++ us) = puts (puts ρ xs vs) ys us := by
  induction xs with
  | nil => intro ρ vs us e; cases (List.length_eq_zero_iff.mp e); rfl
  | cons x r ih =>
    intro ρ vs us e
    cases vs with
    | nil => cases e
    | cons v vs => exact ih (Nat.succ.inj e)
theorem puts_rev {xs : List Str} : ∀ {ρ : Rho} {vs : List V}, xs.Nodup → vs.length = xs.length → puts ρ xs.reverse vs.reverse = puts ρ xs vs := by
  induction xs with
  | nil => intro ρ vs _ e; cases (List.length_eq_zero_iff.mp e); rfl
  | cons x r ih =>
    intro ρ vs hn e
    cases vs with
    | nil => cases e
    | cons v vs =>
      have hn' := List.nodup_cons.mp hn
      rw [List.reverse_cons, List.reverse_cons, puts_app (by rw [List.length_reverse, List.length_reverse]; exact Nat.succ.inj e), ih hn'.2 (Nat.succ.inj e)]
      exact (put_puts hn'.1).symm
/-- what stores into the names -/
noncomputable def fsOk (c : Cx g d) (fs : List (Value → Sem Unit)) (xs : List Str) : Prop := List.rec (motive := fun _ => List Str → Prop) (fun xs => xs = []) (fun f _ ih xs => ∃ x r, xs = x :: r ∧ (∀ v Q s, wpAny (W g) c.A (storeName c.env x v) Q noE s → wpAny (W g) c.A (f v) Q noE s) ∧ ih r) fs xs
theorem asgs_s {fs : List (Value → Sem Unit)} : ∀ {xs : List Str} {ρ : Rho} {vs : List V} {ws : List Value} {m : Str → Option Value} {s : Shared} {Q : Unit → Shared → Prop}, fsOk c fs xs → RL c.h₀ news vs ws → vs.length = xs.length → xs.all (has ρ) = true → LocOk c.cs ρ → St c news m s.heap → Ag c news ρ m →
    (∀ h' m' tk', Kp c news ρ news (puts ρ xs vs) m' h' → Q () { s with heap := h', toks := tk' }) → wpAny (W g) c.A (assignInOrder fs ws) Q noE s := by
  induction fs with
  | nil =>
    intro xs ρ vs ws m s Q hf hr hlen hx hl S a k
    cases (show xs = [] from hf)
    cases (List.length_eq_zero_iff.mp hlen)
    cases (show ws = [] from hr)
    exact wpAny_pure (k s.heap m s.toks ⟨rfl, a, .rfl, S⟩)
  | cons f fs ih =>
    intro xs ρ vs ws m s Q hf hr hlen hx hl S a k
    obtain ⟨x, r, rfl, h1, h2⟩ := hf
    cases vs with
    | nil => cases hlen
    | cons v vs =>
      obtain ⟨w, ws, rfl, hw, hr⟩ := hr
      have hx' := Bool.and_eq_true_iff.mp hx
      refine wpAny_bind (wpAny_holding (h1 w _ s (store_s hx'.1 hl S a hw fun h2' m2 q2 => ?_)))
      exact ih h2 hr (Nat.succ.inj hlen) (List.all_eq_true.mpr fun y hy => has_put (List.all_eq_true.mp hx'.2 y hy)) (hl.same q2.keys) q2.st q2.ag fun h' m' tk' q3 => k h' m' tk' (q2.trans q3)
theorem each_ok {ts : List Expr} : ∀ {xs : List Str}, nms ts = some xs → fsOk c ((assignEach ts c.env).map (·.2)) xs ∧ (assignEach ts c.env).length = xs.length ∧ (assignEach ts c.env).findIdx? (·.1) = none := by
  induction ts with
  | nil => intro xs e; cases (Option.some.inj e); exact ⟨rfl, rfl, rfl⟩
  | cons t ts ih =>
    intro xs e
    cases t with
    | Name x px =>
      obtain ⟨r, e2, rfl⟩ := Option.map_eq_some_iff.mp (show (nms ts).map (x :: ·) = some xs from e)
      have ⟨i1, i2, i3⟩ := ih e2
      exact ⟨⟨x, r, rfl, fun v Q s h => assign_Name h, i1⟩, congrArg (· + 1) i2, by
        show List.findIdx? (·.1) ((false, _) :: assignEach ts c.env) = none
        rw [List.findIdx?_cons, i3]; rfl⟩
    | _ => exact (nomatch (show none = some _ from e))
theorem fm_all {p : Str → Pos → Bool} {ts : List Expr} : ∀ {xs : List Str}, nms ts = some xs → (ts.filterMap (fun | .Name id pos => if p id pos then some id else none | _ => none)).length = ts.length → ts.filterMap (fun | .Name id pos => if p id pos then some id else none | _ => none) = xs := by
  induction ts with
  | nil => intro xs e _; exact Option.some.inj e
  | cons t ts ih =>
    intro xs e
    cases t with
    | Name x px =>
      obtain ⟨r, e2, rfl⟩ := Option.map_eq_some_iff.mp (show (nms ts).map (x :: ·) = some xs from e)
      cases hc : p x px with
      | true =>
        rw [List.filterMap_cons_some (b := x) (by simp only [hc, if_true])]
        exact fun h => congrArg (x :: ·) (ih e2 (Nat.succ.inj h))
      | false =>
        rw [List.filterMap_cons_none (by simp only [hc]; rfl)]
        intro h
        have := List.length_filterMap_le (fun | .Name id pos => if p id pos then some id else none | _ => none) ts
        rw [h] at this
        exact absurd this (by simp)
    | _ => exact (nomatch (show none = some _ from e))
theorem or_ite {α : Type} {p : Prop} [Decidable p] {a b x y : α} (h1 : p → a = x ∨ a = y) (h2 : ¬ p → b = x ∨ b = y) : (if p then a else b) = x ∨ (if p then a else b) = y :=
  (Decidable.em p).elim (fun h => by rw [if_pos h]; exact h1 h) fun h => by rw [if_neg h]; exact h2 h
theorem swap_many {env : Env} {ts vs : List Expr} {xs : List Str} {tp p' : Pos} {k k' : Nat} (hn : nms ts = some xs) (h : (vs.all (foldedForSure 8) || !vs.all (constantsAlone 8)) = true) :
    (swappedStores [.Tuple ts k tp] (.Tuple vs k' p') env = pure none ∨ swappedStores [.Tuple ts k tp] (.Tuple vs k' p') env = pure (some xs)) ∧ ∀ l, swapsWithSole [.Tuple ts k tp] (.Tuple vs k' p') l env = pure false := by
  refine ⟨?_, fun _ => ?_⟩
  · unfold swappedStores
    dsimp only
    refine or_ite (fun _ => .inl rfl) fun _ => ?_
    refine or_ite (fun _ => .inl rfl) fun _ => ?_
    refine or_ite (fun _ => .inl rfl) fun q2 => ?_
    refine or_ite (fun _ => .inl rfl) fun q3 => ?_
    refine or_ite (fun q => ?_) fun _ => ?_
    · have := (Bool.or_eq_true_iff.mp h).resolve_left q3
      rw [q] at this
      exact Bool.noConfusion this
    · exact .inr (congrArg (fun z => pure (some z)) (fm_all (p := fun id pos => env.kindOf id == some .local && pos.line == (Option.map (fun x => x.pos.line) ts.head?).getD 0) hn (bne_eq_false_iff_eq.mp (Bool.or_eq_false_iff.mp (Bool.not_eq_true _ ▸ q2)).1)))
  · unfold swapsWithSole
    rfl

theorem asg_two (hE : SE c G n) (hS : SS c G n) {f : Expr} {as : List Expr} {kw : List Keyword} {cp : Pos} {x y : Str} {px py tp pos : Pos} {k' : Nat} {rest : List Stmt} {P : Fl → Rho → Prop} {Q : Flow → Shared → Prop} (hp : stoQ (wp G n) (wpx G n rest) ρ P (.Call f as kw cp) x y) (hl : LocOk c.cs ρ) (S : St c news m s.heap) (a : Ag c news ρ m) (k : KtS c news ρ s P Q) :
    wpAny (W g) c.A (execs (.Assign [.Tuple [.Name x px, .Name y py] k' tp] (.Call f as kw cp) pos :: rest) c.env) Q noE s := by
  obtain ⟨u, v, hv, hp⟩ := hp
  have ⟨hc, hp⟩ := bok (b := (has ρ x && has ρ y) && (tupOk (.Call f as kw cp) && !decide (x = y))) hp
  have ⟨hxy, he⟩ := Bool.and_eq_true_iff.mp hc
  have ⟨hx, hy⟩ := Bool.and_eq_true_iff.mp hxy
  have hev : ∀ Q' : Value → Shared → Prop, (∀ ad x1 y1 news1 h1 tk1, R c.h₀ news1 x1 u → R c.h₀ news1 y1 v → Kp c news ρ news1 ρ m h1 → (∀ Q'' : List Value → Shared → Prop, (∀ h2, St c news1 m h2 → Q'' [x1, y1] { s with heap := h2, toks := tk1 }) → wpAny (W g) c.A (unpackItems (.ref ad) 2 none) Q'' noE { s with heap := h1, toks := tk1 }) → Q' (.ref ad) { s with heap := h1, toks := tk1 }) → wpAny (W g) c.A (eval (.Call f as kw cp) c.env) Q' noE s :=
    fun Q' hQ => hE (.Call f as kw cp) ρ _ news m s _ hv hl S a fun w z news1 h1 tk1 hz hr1 hs1 S1 => by
      subst hz
      obtain ⟨ad, x1, y1, rfl, hm, hr, hr'⟩ := hr1
      exact hQ _ _ _ news1 h1 tk1 hr hr' ⟨rfl, a.sub hs1, hs1, S1⟩ fun Q'' hQ'' => unpackItemsN_ S1.F S1.N (News.isTup S1.N hm) rfl rfl fun h2 F2 N2 => hQ'' h2 ⟨F2, N2⟩
  refine wpAny_execs_cons (Assign_Tuple (hev _ fun ad x1 y1 news1 h1 tk1 hrx hry q1 hun => ?_) rfl rfl)
  show wpAny _ _ (standAt tp >>= fun _ => unpack (.ref ad) (assignEach [.Name x px, .Name y py] c.env)) _ _ _
  refine wpAny_bind (wpAny_standAt (wpAny_bind (wpAny_holding (hun _ fun h2 S2 => ?_))))
  show wpAny _ _ (holding [y1] (assign (.Name x px) c.env x1) >>= fun _ => holding [] (assign (.Name y py) c.env y1) >>= fun _ => pure ()) _ _ _
  exact wpAny_bind (wpAny_holding (assign_Name (store_s hx hl S2 q1.ag hrx fun h3 m3 q3 =>
    wpAny_bind (wpAny_holding (assign_Name (store_s (has_put hy) (hl.same q3.keys) q3.st q3.ag hry fun h4 m4 q4 => wpAny_pure (hS rest _ P news1 m4 _ Q hp (hl.same (q4.keys.trans q3.keys)) q4.st q4.ag (k.step (q1.trans (q3.trans q4))))))))))

theorem asg_many (hL : SL c G n) (hS : SS c G n) {es ts : List Expr} {xs : List Str} {ep tp pos : Pos} {k0 k' : Nat} {rest : List Stmt} {P : Fl → Rho → Prop} {Q : Flow → Shared → Prop} (hn : nms ts = some xs) (hp : stoN (wp G n) (wpx G n rest) ρ P es xs) (hl : LocOk c.cs ρ) (S : St c news m s.heap) (a : Ag c news ρ m) (k : KtS c news ρ s P Q) :
    wpAny (W g) c.A (execs (.Assign [.Tuple ts k' tp] (.Tuple es k0 ep) pos :: rest) c.env) Q noE s := by
  obtain ⟨vs, hv, hp⟩ := hp
  have ⟨hc, hp⟩ := bok (b := (decide (vs.length = xs.length) && (xs.all (has ρ) && decide xs.Nodup)) && (es.all argE && ((es.all (foldedForSure 8) || !es.all (constantsAlone 8)) && Nat.ble xs.length 100))) hp
  have ⟨hc1, hc2⟩ := Bool.and_eq_true_iff.mp hc
  have ⟨hlen, hc1⟩ := Bool.and_eq_true_iff.mp hc1
  have ⟨hhas, hnd⟩ := Bool.and_eq_true_iff.mp hc1
  have ⟨hst, hc2⟩ := Bool.and_eq_true_iff.mp hc2
  have ⟨htup, hsz⟩ := Bool.and_eq_true_iff.mp hc2
  have hlen := of_decide_eq_true hlen
  have hnd := of_decide_eq_true hnd
  obtain ⟨hsw, hsole⟩ := swap_many (env := c.env) (tp := tp) (p' := ep) (k := k') (k' := k0) hn htup
  have hev : ∀ Q' : Value → Shared → Prop, (∀ ad ws news1 h1 tk1, RL c.h₀ news1 vs ws → Kp c news ρ news1 ρ m h1 → (∀ Q'' : List Value → Shared → Prop, (∀ h2, St c news1 m h2 → Q'' ws { s with heap := h2, toks := tk1 }) → wpAny (W g) c.A (unpackItems (.ref ad) xs.length none) Q'' noE { s with heap := h1, toks := tk1 }) → Q' (.ref ad) { s with heap := h1, toks := tk1 }) → wpAny (W g) c.A (eval (.Tuple es k0 ep) c.env) Q' noE s :=
    fun Q' hQ => Tuple_ (hL es ρ _ news m s _ ep hst hv hl S a fun ws us news1 h1 tk1 hz hr1 hs1 S1 => by
      subst hz
      have hle : us.length ≤ 100 := by
        rw [hlen]
        exact Nat.le_of_ble_eq_true hsz
      refine newTuple_N S1.F S1.N (fun h3 F3 N3 => hQ _ ws _ h3 tk1 (hr1.sub fun _ h => .tail _ h) ⟨rfl, a.sub fun p q => .tail _ (hs1 p q), fun p q => .tail _ (hs1 p q), ⟨F3, N3⟩⟩ fun Q'' hQ'' => unpackItemsN_ F3 N3 (News.isTup N3 (.head _)) rfl (by rw [← hlen, ← hr1.len]; rfl) fun h2 F2 N2 => hQ'' h2 ⟨F2, N2⟩) ?_
      rw [hr1.len, sizeLine_eq]
      exact Nat.le_trans hle (Nat.le_of_ble_eq_true rfl))
  rcases hsw with hsw | hsw
  · refine wpAny_execs_cons (Assign_Tuple (hev _ fun ad ws news1 h1 tk1 hr q1 hun => ?_) (hsole _) hsw)
    have ⟨e1, e2, e3⟩ := each_ok (c := c) hn
    show wpAny _ _ (standAt tp >>= fun _ => unpack (.ref ad) (assignEach ts c.env)) _ _ _
    refine wpAny_bind (wpAny_standAt ?_)
    unfold unpack
    rw [e2, e3]
    exact wpAny_bind (wpAny_holding (hun _ fun h2 S2 => asgs_s e1 hr hlen hhas hl S2 q1.ag fun h3 m3 tk3 q3 => hS rest _ P news1 m3 _ Q hp (hl.same q3.keys) q3.st q3.ag (k.step (q1.trans q3))))
  · refine wpAny_execs_cons (Assign_Tuple_swapped (hev _ fun ad ws news1 h1 tk1 hr q1 hun => hun _ fun h2 S2 => ?_) (hsole _) hsw)
    have e1 : ∀ l : List Str, fsOk c (l.map fun n => bindName c.env n) l := fun l => by
      induction l with
      | nil => exact rfl
      | cons x r ih => exact ⟨x, r, rfl, fun v Q s h => bindName_ h, ih⟩
    refine asgs_s (e1 xs.reverse) hr.rev (by rw [List.length_reverse, List.length_reverse]; exact hlen) (by rw [List.all_reverse]; exact hhas) hl S2 q1.ag fun h3 m3 tk3 q3 => ?_
    rw [puts_rev hnd hlen] at q3
    exact hS rest _ P news1 m3 _ Q hp (hl.same q3.keys) q3.st q3.ag (k.step (q1.trans q3))

theorem ifs_s (hB : SB c G n) (hS : SS c G n) {t : Expr} {x y : List Stmt} {pos : Pos} {rest : List Stmt} {P : Fl → Rho → Prop} {Q : Flow → Shared → Prop}
    (hp : (wp G n).B t ρ fun b => wpx G n (Bool.casesOn (motive := fun _ => List Stmt) b y x) ρ fun fl ρ' => flW (wpx G n rest ρ' P) (P .brk ρ') (fun fl => P fl ρ') fl) (hl : LocOk c.cs ρ) (S : St c news m s.heap) (a : Ag c news ρ m) (k : KtS c news ρ s P Q) :
    wpAny (W g) c.A (execs (.If t x y pos :: rest) c.env) Q noE s := by
  refine wpAny_execs_cons (wpAny_If (hB t ρ _ news m s _ hp hl S a fun b news1 h1 tk1 hp1 hs1 S1 => ?_))
  have key : ∀ ss, wpx G n ss ρ (fun fl ρ' => flW (wpx G n rest ρ' P) (P .brk ρ') (fun fl => P fl ρ') fl) → wpAny (W g) c.A (execs ss c.env) (fun f s' => match f with | .next => wpAny (W g) c.A (execs rest c.env) Q noE s' | f => Q f s') noE { s with heap := h1, toks := tk1 } := by
    intro ss hp2
    refine hS ss ρ _ news1 m _ _ hp2 hl S1 (a.sub hs1) fun fl z ρ' m' news2 h2 tk2 hz hf q => ?_
    have q' : Kp c news ρ news2 ρ' m' h2 := ⟨q.keys, q.ag, hs1.trans q.sub, q.st⟩
    cases z with
    | next => cases hf; exact hS rest ρ' P news2 m' _ Q hz (hl.same q.keys) q.st q.ag (k.step q')
    | brk => cases hf; exact k _ .brk ρ' m' news2 h2 tk2 hz rfl q'
    | ret v => obtain ⟨u, rfl, hr⟩ := hf; exact k _ (.ret v) ρ' m' news2 h2 tk2 hz ⟨u, rfl, hr⟩ q'
  cases b with
  | true => exact key x hp1
  | false => exact key y hp1

theorem whl_s (hB : SB c G n) (hS : SS c G n) {t : Expr} {body : List Stmt} {pos : Pos} {rest : List Stmt} {P : Fl → Rho → Prop} {Q : Flow → Shared → Prop} {I : Rho → Prop} {μ : Rho → Nat} (h0 : I ρ)
    (hI : ∀ ρ', I ρ' → (wp G n).B t ρ' fun b => Bool.casesOn (motive := fun _ => Prop) b (wpx G n rest ρ' P) (wpx G n body ρ' fun fl ρ'' => flW (I ρ'' ∧ μ ρ'' < μ ρ') (wpx G n rest ρ'' P) (fun fl => P fl ρ'') fl)) (hl : LocOk c.cs ρ) (S : St c news m s.heap) (a : Ag c news ρ m) (k : KtS c news ρ s P Q) :
    wpAny (W g) c.A (execs (.While t body [] pos :: rest) c.env) Q noE s := by
  refine wpAny_execs_cons (While_inv2 (fun n m' nx => ∃ ρ', I ρ' ∧ μ ρ' = n ∧ ρ'.map (·.1) = ρ.map (·.1) ∧ Ag c nx ρ' m' ∧ Sub news nx) S.F S.N ⟨ρ, h0, rfl, rfl, a, .rfl⟩ ?_ PassesOwn.never)
  intro _ m1 news1 h1 tk1 F1 N1 ⟨ρ', hi, hμ, hk', a1, hs1⟩
  subst hμ
  refine hB t ρ' _ news1 m1 _ _ (hI ρ' hi) (hl.same hk') ⟨F1, N1⟩ a1 fun b news2 h2 tk2 hp2 hs2 S2 => ?_
  cases b with
  | false =>
    rw [if_neg Bool.false_ne_true]
    exact hS rest ρ' P news2 m1 _ Q hp2 (hl.same hk') S2 (a1.sub hs2) (k.step ⟨hk', a1.sub hs2, hs1.trans hs2, S2⟩)
  | true =>
    rw [if_pos rfl]
    refine hS body ρ' _ news2 m1 _ _ hp2 (hl.same hk') S2 (a1.sub hs2) fun fl z ρ'' m' news3 h3 tk3 hz hf q => ?_
    have q' : Kp c news ρ news3 ρ'' m' h3 := ⟨q.keys.trans hk', q.ag, (hs1.trans hs2).trans q.sub, q.st⟩
    cases z with
    | next => cases hf; exact ⟨h3, tk3, m', news3, μ ρ'', rfl, q.st.F, q.st.N, hz.2, ρ'', hz.1, rfl, q'.keys, q'.ag, q'.sub⟩
    | brk => cases hf; exact hS rest ρ'' P news3 m' _ Q hz (hl.same q'.keys) q.st q.ag (k.step q')
    | ret v => obtain ⟨u, rfl, hr⟩ := hf; exact k _ (.ret v) ρ'' m' news3 h3 tk3 hz ⟨u, rfl, hr⟩ q'

theorem ag_put {x : Str} {v : Value} {y : V} (a : Ag c news ρ m) (hr : R c.h₀ news v y) : Ag c news (put ρ x y) fun z => if z = x then some v else m z := fun z w hz =>
  (lkp_put hz).elim (fun q => ⟨v, if_pos q.1, q.2 ▸ hr⟩) fun q => (a z w q.2).elim fun u q' => ⟨u, (if_neg q.1).trans q'.1, q'.2⟩

theorem loop_s (hS : SS c G n) {x : Str} {body rest : List Stmt} {P : Fl → Rho → Prop} {Q : Flow → Shared → Prop} {I₀ : Addr} {fp : List Addr} {k : Nat} {Pw : Nat → Value → Prop} {Stt : Nat → Heap → Prop} {vs : List V} {I : List V → Rho → Prop}
    (Wk : Walks g.prog g.w c.A I₀ fp [I₀] k Pw Stt) (hL : c.L ∉ fp) (hnone : c.h₀.get? I₀ = none) (hfp : I₀ ∈ fp) (hit : ∀ i h, Stt i h → ∃ o, h.get? I₀ = some o ∧ okO o = false) (hlen : vs.length = k)
    (hitem : ∀ i v, i < k → Pw i v → ∃ u, vs[i]? = some u ∧ ∀ h news, R h news v u) (hl : LocOk c.cs ρ) (S : St c news m s.heap) (hn : ∀ p ∈ news, p.1 ≠ I₀) (hst : Stt 0 s.heap) (a : Ag c news ρ m)
    (h0 : I vs ρ) (hI : ∀ u r ρ', I (u :: r) ρ' → wpx G n body (put ρ' x u) fun fl ρ'' => flW (I r ρ'') (wpx G n rest ρ'' P) (fun fl => P fl ρ'') fl) (hend : ∀ ρ', I [] ρ' → wpx G n rest ρ' P) (kt : KtS c news ρ s P Q) :
    LoopAtV g.prog g.w c.A c.h₀ c.env x body (fun f s' => match f with | .next => wpAny (W g) c.A (execs rest c.env) Q noE s' | f => Q f s') noE (.ref I₀) s := by
  refine ⟨I₀, fp, [I₀], k, Pw, Stt, m, news, fun i m' nx => ∃ ρ', I (vs.drop i) ρ' ∧ ρ'.map (·.1) = ρ.map (·.1) ∧ Ag c nx ρ' m' ∧ Sub news nx, rfl, Wk, hL, fun b hb => List.mem_singleton.mp hb ▸ hnone, fun p hp q => hn p hp (List.mem_singleton.mp q), hst, S.F, S.N, ⟨ρ, h0, rfl, a, .rfl⟩, ?_, ?_⟩
  · intro i v m₁ news₁ s₁ own ⟨hh, tk', hs₁⟩ hin hP ⟨ρ', hi', hk', a1, hs1⟩ hoff hown hget hall hst' F₁ N₁
    subst hs₁
    obtain ⟨u, hu, hr⟩ := hitem i v hin hP
    obtain ⟨it, hi1, hi2⟩ := hit _ _ hst'
    have hdrop : vs.drop i = u :: vs.drop (i + 1) := by
      rw [List.drop_eq_getElem_cons (hlen ▸ hin)]
      congr 1
      exact Option.some.inj ((List.getElem?_eq_getElem _).symm.trans hu)
    rw [hdrop] at hi'
    refine hS body (put ρ' x u) _ (own ++ news₁) _ { s with heap := hh, toks := tk' } _ (hI u _ ρ' hi') (hl.same (put_keys.trans hk')) ⟨F₁, N₁⟩ (ag_put (a1.sub fun p q => List.mem_append_right _ q) (hr _ _)) fun fl z ρ'' m' news3 h3 tk3 hz hf q => ?_
    have keys := q.keys.trans (put_keys.trans hk')
    have hsub : Sub news news3 := fun p hp => q.sub p (List.mem_append_right _ (hs1 p hp))
    have q' : Kp c news ρ news3 ρ'' m' h3 := ⟨keys, q.ag, hsub, q.st⟩
    cases z with
    | next =>
      cases hf
      have hI₀ : ∀ p ∈ news3, p.1 = I₀ → okO p.2 = false := fun p hp e => by
        have h1 := (q.st.N _ (q.sub _ (List.mem_append_left _ (hall I₀ hfp hnone it hi1)))).1
        have h2 := (q.st.N p hp).1
        rw [e, h1] at h2
        exact Option.some.inj h2 ▸ hi2
      refine ⟨rfl, h3, tk3, m', news3.filter (fun p => !decide (p.1 = I₀)), rfl, q.st.F, fun p hp => q.st.N p ?_, fun p hp e => ?_, ρ'', hz, keys, fun y w hy => ?_, fun p hp => List.mem_filter.mpr ⟨hsub p hp, ?_⟩⟩
      · exact (List.mem_append.mp hp).elim (fun h => q.sub p (List.mem_append_left _ h)) fun h => (List.mem_filter.mp h).1
      · have := (List.mem_filter.mp hp).2
        rw [decide_eq_true (List.mem_singleton.mp e)] at this
        exact Bool.noConfusion this
      · exact (q.ag y w hy).elim fun u q2 => ⟨u, q2.1, R.move (fun _ _ e => e) (fun p hp ho => List.mem_filter.mpr ⟨hp, by rw [decide_eq_false fun e => Bool.noConfusion ((hI₀ p hp e).symm.trans ho)]; rfl⟩) q2.2⟩
      · rw [decide_eq_false fun e => hoff p (hs1 p hp) (List.mem_singleton.mpr e)]; rfl
    | brk => cases hf; exact hS rest ρ'' P news3 m' _ Q hz (hl.same keys) q.st q.ag (kt.step q')
    | ret w => obtain ⟨u, rfl, hr⟩ := hf; exact kt _ (.ret w) ρ'' m' news3 h3 tk3 hz ⟨u, rfl, hr⟩ q'
  · intro h' tk m' news' F' N' _ ⟨ρ', hi', hk', a1, hs1⟩
    rw [← hlen, List.drop_length] at hi'
    have S' : St c news' m' h' := ⟨F', N'⟩
    exact hS rest ρ' P news' m' { s with heap := h', toks := tk } Q (hend ρ' hi') (hl.same hk') S' a1 (kt.step ⟨hk', a1, hs1, S'⟩)

theorem isYs_at {ls : List (List Int)} : ∀ {vs : List Value}, isYs ls vs → vs.length = ls.length ∧ ∀ (i : Nat) (v : Value), vs[i]? = some v → ∃ l, ls[i]? = some l ∧ isY l v := by
  induction ls with
  | nil => intro vs e; cases (show vs = [] from e); exact ⟨rfl, fun _ _ e => (nomatch e)⟩
  | cons l r ih =>
    intro vs q
    obtain ⟨v, w, rfl, h1, h2⟩ := q
    refine ⟨congrArg (· + 1) (ih h2).1, fun i u e => ?_⟩
    cases i with
    | zero => exact ⟨l, rfl, Option.some.inj e ▸ h1⟩
    | succ i => exact (ih h2).2 i u e

theorem fresh_s (S : St c news m s.heap) {o : Obj} (ho : o.isFreed = false := by rfl) : c.L ≠ s.heap.objs.size ∧ c.h₀.get? s.heap.objs.size = none ∧ (∀ p ∈ news, p.1 ≠ s.heap.objs.size) ∧ (s.heap.push o).get? s.heap.objs.size = some o ∧ St c news m (s.heap.push o) :=
  ⟨Nat.ne_of_lt S.F.ns.lt, S.F.fresh, fun p hp => Nat.ne_of_lt (Heap.lt_size (S.N p hp).1), Heap.get?_push_size _ ho, ⟨S.F.push _, S.N.pushKeep _⟩⟩

theorem for_lis (hS : SS c G n) {x : Str} {body rest : List Stmt} {P : Fl → Rho → Prop} {Q : Flow → Shared → Prop} {l : Addr} {ws : List Value} {nv : Nat} {vs : List V} {I : List V → Rho → Prop}
    (hm : (l, lisO ws nv) ∈ news) (hlen : vs.length = ws.length) (hitem : ∀ (i : Nat) (v : Value), ws[i]? = some v → ∃ u, vs[i]? = some u ∧ ∀ h news, R h news v u) (hl : LocOk c.cs ρ) (S : St c news m s.heap) (a : Ag c news ρ m)
    (h0 : I vs ρ) (hI : ∀ u r ρ', I (u :: r) ρ' → wpx G n body (put ρ' x u) fun fl ρ'' => flW (I r ρ'') (wpx G n rest ρ'' P) (fun fl => P fl ρ'') fl) (hend : ∀ ρ', I [] ρ' → wpx G n rest ρ' P) (kt : KtS c news ρ s P Q) :
    wpAny (W g) c.A (pyIter (.ref l)) (fun it s₂ => LoopAtV g.prog g.w c.A c.h₀ c.env x body (fun f s' => match f with | .next => wpAny (W g) c.A (execs rest c.env) Q noE s' | f => Q f s') noE it s₂) noE s := by
  have hN := S.N _ hm
  have hls : s.heap.IsList l ws.toArray := News.isList S.N hm
  refine wpAny_pyIter_list hls ?_
  obtain ⟨f1, f2, f3, f4, f5⟩ := fresh_s S (o := { cls := .type "list_iterator", data := .fields #[.ref l, .int 0 0] })
  have hne : l ≠ s.heap.objs.size := f3 _ hm
  exact loop_s hS (Walks.list (A := c.A) rfl s.heap.objs.size l hne ws.toArray) (fun q => (List.mem_cons.mp q).elim f1 fun q => hN.2.1 (List.mem_singleton.mp q).symm) f2 (.head _) (fun i h q => q.1.elim fun o q => ⟨o, q.1, by unfold okO; rw [q.2.1]; rfl⟩) (hlen.trans List.size_toArray.symm)
    (fun i v _ hv => hitem i v (by simpa using hv)) hl f5 f3 ⟨⟨_, f4, rfl, rfl⟩, hls.at fun o e => Heap.get?_push_of_some _ e⟩ a h0 hI hend (kt.step ⟨rfl, a, .rfl, f5⟩)
theorem for_tup (hS : SS c G n) {x : Str} {body rest : List Stmt} {P : Fl → Rho → Prop} {Q : Flow → Shared → Prop} {l : Addr} {ws : List Value} {vs : List V} {I : List V → Rho → Prop}
    (hm : (l, tupO ws) ∈ news) (hlen : vs.length = ws.length) (hitem : ∀ (i : Nat) (v : Value), ws[i]? = some v → ∃ u, vs[i]? = some u ∧ ∀ h news, R h news v u) (hl : LocOk c.cs ρ) (S : St c news m s.heap) (a : Ag c news ρ m)
    (h0 : I vs ρ) (hI : ∀ u r ρ', I (u :: r) ρ' → wpx G n body (put ρ' x u) fun fl ρ'' => flW (I r ρ'') (wpx G n rest ρ'' P) (fun fl => P fl ρ'') fl) (hend : ∀ ρ', I [] ρ' → wpx G n rest ρ' P) (kt : KtS c news ρ s P Q) :
    wpAny (W g) c.A (pyIter (.ref l)) (fun it s₂ => LoopAtV g.prog g.w c.A c.h₀ c.env x body (fun f s' => match f with | .next => wpAny (W g) c.A (execs rest c.env) Q noE s' | f => Q f s') noE it s₂) noE s := by
  have hN := S.N _ hm
  have hls : s.heap.IsTuple l ws.toArray := News.isTup S.N hm
  refine wpAny_pyIter_tuple hls ?_
  obtain ⟨f1, f2, f3, f4, f5⟩ := fresh_s S (o := { cls := .type "tuple_iterator", data := .fields #[.ref l, .int 0 0] })
  have hne : l ≠ s.heap.objs.size := f3 _ hm
  exact loop_s hS (Walks.tuple (A := c.A) rfl s.heap.objs.size l hne ws.toArray) (fun q => (List.mem_cons.mp q).elim f1 fun q => hN.2.1 (List.mem_singleton.mp q).symm) f2 (.head _) (fun i h q => q.1.elim fun o q => ⟨o, q.1, by unfold okO; rw [q.2.1]; rfl⟩) (hlen.trans List.size_toArray.symm)
    (fun i v _ hv => hitem i v (by simpa using hv)) hl f5 f3 ⟨⟨_, f4, rfl, rfl⟩, hls.push _⟩ a h0 hI hend (kt.step ⟨rfl, a, .rfl, f5⟩)
theorem for_rng (hS : SS c G n) {x : Str} {body rest : List Stmt} {P : Fl → Rho → Prop} {Q : Flow → Shared → Prop} {l : Addr} {k : Nat} {t u w : Tok} {I : List V → Rho → Prop}
    (hm : (l, rngO k t u w) ∈ news) (hk : k ≤ 1000000) (hl : LocOk c.cs ρ) (S : St c news m s.heap) (a : Ag c news ρ m)
    (h0 : I ((List.range k).map fun (i : Nat) => .int (i : Int)) ρ) (hI : ∀ u r ρ', I (u :: r) ρ' → wpx G n body (put ρ' x u) fun fl ρ'' => flW (I r ρ'') (wpx G n rest ρ'' P) (fun fl => P fl ρ'') fl) (hend : ∀ ρ', I [] ρ' → wpx G n rest ρ' P) (kt : KtS c news ρ s P Q) :
    wpAny (W g) c.A (pyIter (.ref l)) (fun it s₂ => LoopAtV g.prog g.w c.A c.h₀ c.env x body (fun f s' => match f with | .next => wpAny (W g) c.A (execs rest c.env) Q noE s' | f => Q f s') noE it s₂) noE s := by
  have hsz : Builtin.Range.rangeSize 0 k 1 = (k : Int) := by unfold Builtin.Range.rangeSize; simp; omega
  refine wpAny_pyIter_range (S.N _ hm).1 ?_ ?_
  · unfold Builtin.Range.small
    rw [hsz]
    have hf : ∀ z : Int, 0 ≤ z → z ≤ 2000000 → Builtin.Range.rangeFitsLong z = true := fun z h1 h2 => by
      unfold Builtin.Range.rangeFitsLong
      simp
      omega
    rw [hf 0 (by decide) (by decide), hf k (by omega) (by omega), hf 1 (by decide) (by decide), if_pos (by decide), hf _ (by omega) (by omega)]
    simp
  rw [hsz]
  obtain ⟨f1, f2, f3, f4, f5⟩ := fresh_s S (o := { cls := .type "range_iterator", data := .fields #[rawInt 0, rawInt (k : Int), rawInt 1] })
  exact loop_s hS (Walks.range (A := c.A) rfl s.heap.objs.size 0 1 k) (fun q => f1 (List.mem_singleton.mp q)) f2 (.head _) (fun i h q => ⟨_, q, rfl⟩) (by simp)
    (fun i v hi hv => by obtain ⟨t, rfl⟩ := hv; exact ⟨.int i, by simp [hi], fun _ _ => ⟨t, by simp⟩⟩) hl f5 f3 (by show IsRangeIter _ _ _ _ _; simpa using f4) a h0 hI hend (kt.step ⟨rfl, a, .rfl, f5⟩)

theorem ints_at {ws : List Value} {l : List Int} (hi : IntsAre ws l) : ∀ {i : Nat} {v : Value}, ws[i]? = some v → ∃ u, (l.map V.int)[i]? = some u ∧ ∀ h news, R h news v u := by
  induction hi with
  | nil => intro i v e; exact (nomatch e)
  | cons n t _ ih =>
    intro i v e
    cases i with
    | zero => cases e; exact ⟨_, rfl, fun _ _ => ⟨t, rfl⟩⟩
    | succ i => exact ih e
theorem for_s (hE : SE c G n) (hS : SS c G n) {it : Expr} {x : Str} {px pos : Pos} {body rest : List Stmt} {P : Fl → Rho → Prop} {Q : Flow → Shared → Prop} (hpl : plainE it = true) (hx : has ρ x = true) (hp : (wp G n).E it ρ (forP (wpx G n) body rest ρ P x)) (hl : LocOk c.cs ρ) (S : St c news m s.heap) (a : Ag c news ρ m) (k : KtS c news ρ s P Q) :
    wpAny (W g) c.A (execs (.For (.Name x px) it body [] pos :: rest) c.env) Q noE s := by
  have hf : ∀ v, foldedSetIterable it c.env v = pure v := by cases it <;> first | exact fun _ => rfl | exact Bool.noConfusion hpl
  refine wpAny_execs_cons (For_invV c.h₀ (hl x (has_mem hx)).1 ?_ (hE it ρ _ news m s _ hp hl S a fun v y news1 h1 tk1 hp1 hr1 hs1 S1 => ?_) hf PassesOwn.never)
  · show (c.cs.kind == .class || (c.cs.kind == .module && _)) = false
    rw [c.hk]; rfl
  · obtain ⟨vs, hv, I, h0, hI, hend⟩ := obv (o := itV y) hp1
    have hka : Kp c news ρ news1 ρ m h1 := ⟨rfl, a.sub hs1, hs1, S1⟩
    cases y with
    | own l =>
      cases hv
      obtain ⟨ad, ws, nv, rfl, hm, hi⟩ := hr1
      exact for_lis hS hm (by rw [List.length_map, hi.length]) (fun i v hv => ints_at hi hv) hl S1 hka.ag h0 hI hend (k.step hka)
    | seq l =>
      cases hv
      obtain ⟨ad, ws, nv, rfl, hm, hi⟩ := hr1
      exact for_lis hS hm (by rw [List.length_map, (isYs_at hi).1]) (fun i v hv => ((isYs_at hi).2 i v hv).elim fun l q => ⟨.bytes l, by rw [List.getElem?_map, q.1]; rfl, fun _ _ => q.2⟩) hl S1 hka.ag h0 hI hend (k.step hka)
    | tri p q r =>
      cases hv
      obtain ⟨ad, ws, rfl, hm, hi⟩ := hr1
      exact for_tup hS hm (isYs_at hi).1.symm (fun i v hv => ((isYs_at hi).2 i v hv).elim fun l q' => ⟨.bytes l, (List.getElem?_map (f := V.bytes) (l := [p, q, r])).trans (by rw [q'.1]; rfl), fun _ _ => q'.2⟩) hl S1 hka.ag h0 hI hend (k.step hka)
    | rng k0 =>
      cases hv
      obtain ⟨hk0, ad, t, u, w, rfl, hm⟩ := hr1
      exact for_rng hS hm hk0 hl S1 hka.ag h0 hI hend (k.step hka)
    | _ => cases hv

theorem asg_s (hE : SE c G n) (hL : SL c G n) (hS : SS c G n) {e t : Expr} {pos : Pos} {rest : List Stmt} {P : Fl → Rho → Prop} {Q : Flow → Shared → Prop} (hp : asgP (wp G n) (wpx G n rest) ρ P e t) (hl : LocOk c.cs ρ) (S : St c news m s.heap) (a : Ag c news ρ m) (k : KtS c news ρ s P Q) :
    wpAny (W g) c.A (execs (.Assign [t] e pos :: rest) c.env) Q noE s := by
  cases t with
  | Name x px => exact asg_one hE hS hp hl S a k
  | Tuple ts k' tp =>
    cases e with
    | Tuple es k0 ep =>
      obtain ⟨xs, hn, hp⟩ := obv (o := nms ts) hp
      exact asg_many hL hS hn hp hl S a k
    | Call f as kw cp =>
      obtain ⟨xs, hn, hp⟩ := obv (o := nms ts) hp
      cases ts with
      | nil => cases hn; exact hp.elim
      | cons t1 ts =>
        cases t1 with
        | Name x px =>
          obtain ⟨r, e2, rfl⟩ := Option.map_eq_some_iff.mp (show (nms ts).map (x :: ·) = some xs from hn)
          cases ts with
          | nil => cases e2; exact hp.elim
          | cons t2 ts =>
            cases t2 with
            | Name y py =>
              obtain ⟨r2, e3, rfl⟩ := Option.map_eq_some_iff.mp (show (nms ts).map (y :: ·) = some r from e2)
              cases ts with
              | nil => cases e3; exact asg_two hE hS hp hl S a k
              | cons t3 ts =>
                cases t3 with
                | Name z pz =>
                  obtain ⟨r3, e4, rfl⟩ := Option.map_eq_some_iff.mp (show (nms ts).map (z :: ·) = some r2 from e3)
                  exact hp.elim
                | _ => exact (nomatch (show none = some _ from e3))
            | _ => exact (nomatch (show none = some _ from e2))
        | _ => exact (nomatch (show none = some _ from hn))
    | _ => exact hp.elim
  | _ => exact hp.elim

theorem s_stm (hG : GOk g d c.cs G) (n : Nat) : SS c G n := by
  induction n with
  | zero => exact fun _ _ _ _ _ _ _ h => h.elim
  | succ n hS =>
    intro ss ρ P news m s Q hp hl S a k
    have hE := (s_all hG n).1
    have hB := (s_all hG n).2.2.2.2.1
    have hL := (s_all hG n).2.2.1
    cases ss with
    | nil => exact wpAny_execs_nil (k _ .next ρ m news s.heap s.toks hp rfl ⟨rfl, a, .rfl, S⟩)
    | cons st rest =>
      cases st with
      | Assign ts e pos =>
        cases ts with
        | nil => exact hp.elim
        | cons t ts =>
          cases ts with
          | nil => exact asg_s hE hL hS hp hl S a k
          | cons => exact hp.elim
      | If t x y pos => exact ifs_s hB hS hp hl S a k
      | While t body els pos =>
        cases els with
        | nil => obtain ⟨I, μ, h0, hI⟩ := hp; exact whl_s hB hS h0 hI hl S a k
        | cons => exact hp.elim
      | Return e pos =>
        cases e with
        | none => exact hp.elim
        | some e => exact wpAny_execs_cons (wpAny_Return_some (hE e ρ _ news m s _ hp hl S a fun u y news1 h1 tk1 hy hr1 hs1 S1 => k _ (.ret y) ρ m news1 h1 tk1 hy ⟨u, rfl, hr1⟩ ⟨rfl, a.sub hs1, hs1, S1⟩))
      | For t it body els pos =>
        have ⟨hpl, hp⟩ := bok (b := plainE it) hp
        cases t with
        | Name x px =>
          cases els with
          | nil => have ⟨hx, hp⟩ := bok (b := has ρ x) hp; exact for_s hE hS hpl hx hp hl S a k
          | cons => exact hp.elim
        | _ => exact hp.elim
      | Break pos => exact wpAny_execs_cons (wpAny_Break (k _ .brk ρ m news s.heap s.toks hp rfl ⟨rfl, a, .rfl, S⟩))
      | _ => exact hp.elim
end

/-- the map that a call binds agrees with the frame's names -/
noncomputable def AgB (h₀ : Heap) (news : List (Addr × Obj)) (ρ : Rho) (binds : List (Str × Value)) : Prop := ∀ x v, lkp ρ x = some v → ∃ u, binds.reverse.lookup x = some u ∧ R h₀ news u v
structure Bi (h₀ : Heap) (news : List (Addr × Obj)) (ρ : Rho) (sc : Scope) (fd : FuncData) (ws : List Value) (binds : List (Str × Value)) : Prop where
  bind : bindArgs fd ⟨ws, []⟩ = pure binds
  loc : ∀ y ∈ binds, sc.names.lookup y.1 = some .local
  ag : AgB h₀ news ρ binds

/-- what a def's body is to do, walked by hand or not -/
noncomputable def BodyOk (g : Gl) (d : Nat) (sc : Scope) (body : List Stmt) (ρ : Rho) (r : V) : Prop := ∀ (c : Cx g d) (news : List (Addr × Obj)) (m : Str → Option Value) (s : Shared) (Q : Flow → Shared → Prop), c.cs = sc → LocOk sc ρ → St c news m s.heap → Ag c news ρ m → KtS c news ρ s (fun fl _ => fl = .ret r) Q → wpAny (W g) c.A (execs body c.env) Q noE s
theorem body_of {g : Gl} {d : Nat} {sc : Scope} {body : List Stmt} {G : Tb} {ρ : Rho} {n : Nat} {r : V} (hG : GOk g d sc G) (hp : wpx G n body ρ (fun fl _ => fl = .ret r)) : BodyOk g d sc body ρ r :=
  fun c news m s Q hc hl S a k => by subst hc; exact s_stm hG n body ρ _ news m s Q hp hl S a k
theorem con_raw {g : Gl} {d : Nat} {f : Addr} {name qual : Str} {params : Arguments} {body : List Stmt} {sc : Scope} {dV kV doc pm cdv ct oc : Value} {an od : Option Addr} {osl : Array (Option Value)} {xs : List V} {r : V} {ρ : Rho}
    (ho : g.K.lookup f = some ⟨oc, od, .func (fnOf name qual params body sc dV kV doc pm an cdv ct), osl⟩) (hcd : codeIn g.K cdv qual = true)
    (hb : ∀ (h₀ : Heap) news ws, RL h₀ news xs ws → ∃ binds, Bi h₀ news ρ sc (fnOf name qual params body sc dV kV doc pm an cdv ct) ws binds)
    (hl : LocOk sc ρ) (hr : r.fine = true) (hp : BodyOk g d sc body ρ r)
    (hco : sc.isCoroutine = false) (hgen : sc.isGenerator = false) (hk : sc.kind = .function) (hcell : ∀ x ∈ sc.names, x.2 ≠ .cell) (hturn : (sc.names.lookup ("turn" : Str) == some NameKind.local) = false) : Con g (d + 1) (.ref f) xs r := by
  intro c news m s ws Q S hrl k
  obtain ⟨binds, hbind, hloc, hag⟩ := hb c.h₀ news ws hrl
  refine wpAny_call (code_def c.B S.F c.X S.N c.T rfl rfl c.hk ho hcd (Nat.lt_of_le_of_lt (Nat.le_add_right _ _) c.hd) (BindsTo.of_eq hbind) hloc (fun g' L' h' FG' F' N' B' X' T' => ?_) hco hgen hk hcell)
  let c' : Cx g d := { dp := c.dp + 1, un := c.un + 3, gd := c.gd, cn := qual, cs := sc, L := L', a := f, ccd := cdv, cl := [], outer := envX c.cn c.cs c.L c.a c.ccd c.cl :: c.outer, A₀ := c.A, base := c.base, h₀ := g', B := B', X := X', T := T', hk := hk, hd := by have := c.hd; omega, hu := by have := c.hu; omega, ht := fun e => Bool.noConfusion (hturn.symm.trans e), XB := c.XB, TB := c.TB }
  refine wpAny_mono (hp c' news (fun y => binds.reverse.lookup y) { s with heap := h', toks := s.toks + binds.length } (fun fl s' => LeaveK c.h₀ c.L m g' (fun r s' => match r with | .ok (.ret v) => Q v s' | .ok _ => False | .error e => noE e s') (match fl with | .ret v => v | _ => .none) s') rfl hl ⟨F', N'⟩
    (fun x v e => (hag x v e).elim fun u q => ⟨u, q.1, R.mono FG'.keep (fun _ h => h) q.2⟩) fun fl x ρ' m' news' h2 tk2 hx hf q => ?_) (fun _ _ h => h) fun _ _ h => h.elim
  subst hx
  obtain ⟨u, rfl, hr'⟩ := hf
  exact leaveK_ q.st.F q.st.N fun F3 N3 => k _ _ news' h2 tk2 rfl (R.plain hr hr') q.sub ⟨F3, N3⟩

/-- the def at x's address a -/
structure FnK (g : Gl) (x : Str) (a : Addr) (ps : Arguments) (body : List Stmt) (sc : Scope) : Prop where
  look : ∃ oc od doc pm an cdv ct osl, g.K.lookup a = some ⟨oc, od, .func (fnOf x x ps body sc .none .none doc pm an cdv ct), osl⟩ ∧ codeIn g.K cdv x = true
  name : nsIn g.K mainGlobals x = some (some (.ref a))
  keep : keepIn g.K (.ref a) = true

noncomputable def mkRho (ns : List Str) (xs : List V) (loc : List Str) : Rho := List.rec (motive := fun _ => List V → Rho) (fun _ => loc.map fun y => (y, none)) (fun x _ ih xs => List.casesOn (motive := fun _ => Rho) xs ((x, none) :: ih []) fun v r => (x, some v) :: ih r) ns xs
/-- the names' look -/
noncomputable def chk (sc : Scope) (ns : List Str) (loc : List Str) : Bool :=
  ((ns ++ loc).all fun y => (sc.names.lookup y == some .local) && !(y == ("__debug__" : Str))) && (!(sc.names.lookup ("turn" : Str) == some NameKind.local) && (decide ns.Nodup && (!sc.isCoroutine && (!sc.isGenerator && ((sc.kind == .function) && sc.names.all fun x => !(x.2 == .cell))))))

theorem mkRho_keys {ns loc : List Str} : ∀ {xs : List V}, (mkRho ns xs loc).map (·.1) = ns ++ loc := by
  induction ns with
  | nil => intro xs; show (loc.map fun y => (y, none)).map (·.1) = loc; rw [List.map_map]; exact List.map_id _
  | cons x r ih =>
    intro xs
    cases xs with
    | nil => exact congrArg (x :: ·) ih
    | cons v w => exact congrArg (x :: ·) ih
theorem look_zip {ns : List Str} : ∀ {ws : List Value} {x : Str} {u : Value}, ns.Nodup → (ns.zip ws).lookup x = some u → (ns.zip ws).reverse.lookup x = some u := by
  intro ws x u hn h
  have key : ∀ (l : List (Str × Value)), (l.map (·.1)).Nodup → l.lookup x = some u → l.reverse.lookup x = some u := by
    intro l
    induction l with
    | nil => exact fun _ h => h
    | cons p r ih =>
      intro hn h
      rw [List.reverse_cons]
      have hn' := List.nodup_cons.mp hn
      by_cases e : x = p.1
      · have : r.reverse.lookup x = none := List.lookup_eq_none_iff.mpr fun (q : Str × Value) hq => by
          have hq' := List.mem_reverse.mp hq
          refine (bne_iff_ne (a := x) (b := q.1)).mpr fun e2 => hn'.1 ?_
          show p.1 ∈ _
          rw [← e, e2]
          exact List.mem_map_of_mem hq'
        rw [List.lookup_append, this]
        subst e
        rw [List.lookup_cons_self] at h ⊢
        exact h
      · rw [List.lookup_cons, beq_eq_false_iff_ne.mpr e] at h
        rw [List.lookup_append, ih hn'.2 h]
        rfl
  refine key _ ?_ h
  clear h key
  induction ns generalizing ws with
  | nil => exact .nil
  | cons y r ih =>
    cases ws with
    | nil => exact .nil
    | cons w ws =>
      have hn' := List.nodup_cons.mp hn
      refine List.nodup_cons.mpr ⟨fun q => ?_, ih hn'.2⟩
      obtain ⟨p, hp, e⟩ := List.mem_map.mp q
      exact hn'.1 ((show p.1 = y from e) ▸ (List.of_mem_zip hp).1)
theorem mkRho_ag {h₀ : Heap} {news : List (Addr × Obj)} {ns loc : List Str} : ∀ {xs : List V} {ws : List Value} {x : Str} {v : V}, RL h₀ news xs ws → lkp (mkRho ns xs loc) x = some v → ∃ u, (ns.zip ws).lookup x = some u ∧ R h₀ news u v := by
  have hloc : ∀ {x : Str} {v : V}, lkp (loc.map fun y => (y, none)) x = some v → False := by
    intro x v
    induction loc with
    | nil => exact fun e => (nomatch e)
    | cons y r ih => exact fun e => (Decidable.em (x = y)).elim (fun h => by rw [show lkp ((y :: r).map fun y => (y, none)) x = none from lkp_yes (p := (y, none)) h] at e; cases e) fun h => ih ((lkp_no (p := (y, none)) h).symm.trans e)
  induction ns with
  | nil => intro xs ws x v _ e; exact (hloc e).elim
  | cons y r ih =>
    intro xs ws x v hr e
    cases xs with
    | nil =>
      cases (show ws = [] from hr)
      by_cases h : x = y
      · rw [show lkp (mkRho (y :: r) [] loc) x = none from lkp_yes (p := (y, none)) h] at e; cases e
      · have := ih (xs := []) (ws := []) rfl ((lkp_no (p := (y, none)) h).symm.trans e)
        rw [List.zip_nil_right] at this ⊢
        exact this
    | cons z w =>
      obtain ⟨u, q, rfl, h1, h2⟩ := hr
      by_cases h : x = y
      · rw [show lkp (mkRho (y :: r) (z :: w) loc) x = some z from lkp_yes (p := (y, some z)) h] at e
        cases e
        exact ⟨u, by rw [h]; exact List.lookup_cons_self, h1⟩
      · obtain ⟨u', e1, e2⟩ := ih h2 ((lkp_no (p := (y, some z)) h).symm.trans e)
        exact ⟨u', by rw [List.zip_cons_cons, List.lookup_cons, beq_eq_false_iff_ne.mpr h]; exact e1, e2⟩

theorem con3 {g : Gl} {d : Nat} {x : Str} {a : Addr} {ps : Arguments} {body : List Stmt} {sc : Scope} (H : FnK g x a ps body sc) (ns loc : List Str) {xs : List V} {r : V} (hc : chk sc ns loc = true) (hlen : xs.length = ns.length) (hr : r.fine = true)
    (hbind : ∀ ws fd, ws.length = ns.length → fd.params = ps → fd.defaults = .none → fd.kwdefaults = .none → bindArgs fd ⟨ws, []⟩ = pure (ns.zip ws)) (hp : BodyOk g d sc body (mkRho ns xs loc) r) : Con g (d + 1) (.ref a) xs r := by
  obtain ⟨oc, od, doc, pm, an, cdv, ct, osl, ho, hcd⟩ := H.look
  have ⟨h1, h2⟩ := Bool.and_eq_true_iff.mp hc
  have ⟨ht, h2⟩ := Bool.and_eq_true_iff.mp h2
  have ⟨h2, h3⟩ := Bool.and_eq_true_iff.mp h2
  have ⟨h3, h4⟩ := Bool.and_eq_true_iff.mp h3
  have ⟨h4, h5⟩ := Bool.and_eq_true_iff.mp h4
  have ⟨h5, h6⟩ := Bool.and_eq_true_iff.mp h5
  have hloc : ∀ y ∈ ns ++ loc, sc.names.lookup y = some .local ∧ (y == ("__debug__" : Str)) = false := fun y hy => by
    have := Bool.and_eq_true_iff.mp (List.all_eq_true.mp h1 y hy)
    exact ⟨beq_iff_eq.mp this.1, (Bool.not_eq_true' _).mp this.2⟩
  refine con_raw ho hcd (fun h₀ news ws hrl => ?_) (fun y hy => hloc y (mkRho_keys ▸ hy)) hr hp ((Bool.not_eq_true' _).mp h3) ((Bool.not_eq_true' _).mp h4) (beq_iff_eq.mp h5) (fun x hx e => by
    have := List.all_eq_true.mp h6 x hx
    rw [e] at this
    exact Bool.noConfusion this) ((Bool.not_eq_true' _).mp ht)
  refine ⟨ns.zip ws, hbind ws _ (hrl.len.trans hlen) rfl rfl rfl, fun y hy => (hloc y.1 (List.mem_append_left _ (List.of_mem_zip hy).1)).1, fun x v e => ?_⟩
  obtain ⟨u, e1, e2⟩ := mkRho_ag hrl e
  exact ⟨u, look_zip (of_decide_eq_true h2) e1, e2⟩
theorem con2 {g : Gl} {d : Nat} {x : Str} {a : Addr} {ps : Arguments} {body : List Stmt} {sc : Scope} (H : FnK g x a ps body sc) (ns loc : List Str) (T : Tb) (n : Nat) {xs : List V} {r : V} (hT : GOk g d sc T) (hc : chk sc ns loc = true) (hlen : xs.length = ns.length) (hr : r.fine = true)
    (hbind : ∀ ws fd, ws.length = ns.length → fd.params = ps → fd.defaults = .none → fd.kwdefaults = .none → bindArgs fd ⟨ws, []⟩ = pure (ns.zip ws)) (hp : wpx T n body (mkRho ns xs loc) (fun fl _ => fl = .ret r)) : Con g (d + 1) (.ref a) xs r :=
  con3 H ns loc hc hlen hr hbind (body_of hT hp)

section
variable {g : Gl} {d : Nat} {c : Cx g d} {news₀ news : List (Addr × Obj)} {m : Str → Option Value} {s : Shared} {G : Tb} {ρ : Rho} {n : Nat} {x : Str}
/-- a frame that turns a list of its own, by the name x -/
structure Ms (c : Cx g d) (news₀ : List (Addr × Obj)) (x : Str) (ρ : Rho) (news : List (Addr × Obj)) (m : Str → Option Value) (h : Heap) : Prop where
  st : St c news m h
  ag : Ag c news ρ m
  sub : Sub news₀ news
  at_ : ∃ D, m x = some (.ref D) ∧ ∀ p ∈ news₀, p.1 ≠ D
/-- no reference -/
noncomputable def flat (v : V) : Bool := V.casesOn (motive := fun _ => Bool) v true (fun _ => true) (fun _ => true) (fun _ => true) (fun _ => true) (fun _ _ => false) (fun _ _ _ => false) (fun _ => false) (fun _ => false) (fun _ => false) (fun _ => false) (fun _ => false)
theorem flat_R {h h' : Heap} {nw nw' : List (Addr × Obj)} {v : Value} {y : V} (e : flat y = true) (r : R h nw v y) : R h' nw' v y := by
  cases y <;> first | exact r | exact Bool.noConfusion e
noncomputable def rest1 (x : Str) (ρ : Rho) : Bool := ρ.all fun p => (p.1 == x) || (match p.2 with | none => true | some v => flat v)
theorem rest1_at {x y : Str} {v : V} {ρ : Rho} (h : rest1 x ρ = true) (e : lkp ρ y = some v) (hne : y ≠ x) : flat v = true := by
  induction ρ with
  | nil => exact (nomatch (show none = some _ from e))
  | cons p r ih =>
    have h' := Bool.and_eq_true_iff.mp h
    by_cases hy : y = p.1
    · rw [lkp_yes hy] at e
      have q : (p.1 == x || (match p.2 with | none => true | some v => flat v)) = true := h'.1
      rw [e] at q
      rcases Bool.or_eq_true_iff.mp q with q | q
      · exact absurd (hy.trans (beq_iff_eq.mp q)) hne
      · exact q
    · rw [lkp_no hy] at e
      exact ih h'.2 e

theorem News.split1 {h₀ h : Heap} {L D : Addr} {o : Obj} {l : List (Addr × Obj)} (N : News h₀ L h l) (hm : (D, o) ∈ l) : ∃ l', News h₀ L h ((D, o) :: l') ∧ (∀ p ∈ l', p.1 ≠ D) ∧ ∀ p ∈ l, p.1 ≠ D → p ∈ l' := by
  refine ⟨l.filter (fun p => !decide (p.1 = D)), fun p hp => ?_, fun p hp e => ?_, fun p hp hne => List.mem_filter.mpr ⟨hp, by rw [decide_eq_false hne]; rfl⟩⟩
  · exact (List.mem_cons.mp hp).elim (fun e => e ▸ N _ hm) fun hp => N p (List.mem_filter.mp hp).1
  · have := (List.mem_filter.mp hp).2
    rw [decide_eq_true e] at this
    exact Bool.noConfusion this

theorem m_asg (hE : SE c G n) (hl : LocOk c.cs ρ) (M : Ms c news₀ x ρ news m s.heap) {e : Expr} {y : Str} {py pos : Pos} {v : V} {rest : List Stmt} {Q : Flow → Shared → Prop} (hv : (wp G n).E e ρ (· = v)) (he : plainE e = true) (hy : has ρ y = true) (hne : y ≠ x) 
    (k : ∀ news' m' h' tk, Ms c news₀ x (put ρ y v) news' m' h' → wpAny (W g) c.A (execs rest c.env) Q noE { s with heap := h', toks := tk }) :
    wpAny (W g) c.A (execs (.Assign [.Name y py] e pos :: rest) c.env) Q noE s := by
  refine wpAny_execs_cons (wpAny_Assign_Name (hE e ρ _ news m s _ hv hl M.st M.ag fun u z news1 h1 tk1 hz hr1 hs1 S1 => ?_) ?_)
  · subst hz
    refine storeX_L S1.F S1.N (fun h2 F2 N2 => k news1 _ h2 _ ⟨⟨F2, N2⟩, ag_put (M.ag.sub hs1) hr1, M.sub.trans hs1, ?_⟩) c.hk (hl y (has_mem hy)).1
    obtain ⟨D, h3, h4⟩ := M.at_
    exact ⟨D, (if_neg (Ne.symm hne)).trans h3, h4⟩
  · cases e <;> first | rfl | exact Bool.noConfusion he

theorem m_chg {acc acc' : List Int} {D : Addr} {vs vs' : List Value} {nv nv' : Nat} {l' : List (Addr × Obj)} {h' : Heap} (hρ : has ρ x = true) (hf : rest1 x ρ = true) (M : Ms c news₀ x ρ news m s.heap) (hD : m x = some (.ref D)) (hoff : ∀ p ∈ news₀, p.1 ≠ D)
    (hk : ∀ p ∈ news, p.1 ≠ D → p ∈ l') (F : Fr c.h₀ c.L h' m) (N : News c.h₀ c.L h' ((D, lisO vs' nv') :: l')) (hi : IntsAre vs' acc') : Ms c news₀ x (put ρ x (.own acc')) ((D, lisO vs' nv') :: l') m h' := by
  refine ⟨⟨F, N⟩, fun y v e => ?_, fun p hp => .tail _ (hk p (M.sub p hp) (hoff p hp)), ⟨D, hD, hoff⟩⟩
  rcases lkp_put e with ⟨rfl, rfl⟩ | ⟨hne, e⟩
  · exact ⟨_, hD, D, vs', nv', rfl, .head _, hi⟩
  · exact (M.ag y v e).elim fun u q => ⟨u, q.1, flat_R (rest1_at hf e hne) q.2⟩

theorem m_at {acc : List Int} (hx : lkp ρ x = some (.own acc)) (M : Ms c news₀ x ρ news m s.heap) : ∃ D vs nv, m x = some (.ref D) ∧ (∀ p ∈ news₀, p.1 ≠ D) ∧ (D, lisO vs nv) ∈ news ∧ IntsAre vs acc := by
  obtain ⟨u, hu, D, vs, nv, rfl, hm, hi⟩ := M.ag x _ hx
  obtain ⟨D', h3, h4⟩ := M.at_
  rw [hu] at h3
  cases h3
  exact ⟨D, vs, nv, hu, h4, hm, hi⟩

/-- where a method's name is read -/
noncomputable def mPl (x : Str) (px : Pos) (env : Env) : Sem Bool := do return (← importBound (.Name x px) env).getD true
theorem mcall_eq {px p1 p2 : Pos} {nm : Str} {args : List Expr} {env : Env} (hf : methodCallForm (args.length + 0) (backTo p2 (starEach args env)) [] = true) (hp : (p1.endLine == p2.line) = true) :
    eval (.Call (.Attribute (.Name x px) nm p1) args [] p2) env = (do
      let ov ← eval (.Name x px) env
      standAt p1.atName
      let (f, first) ← holding [ov] (getMethod ov nm (mPl x px env))
      callWith p2 f first (backTo p2 (starEach args env)) (backToKw p2 (keywordEach [] env))) := by
  rw [arm_eval_Call]
  have e1 : attributeBase (.Name x px) nm env (eval (.Name x px) env) = eval (.Name x px) env := rfl
  have e2 : backToKw p2 (keywordEach [] env) = [] := rfl
  have e3 : methodCallPos true (.Name x px) env p1 p2 = pure p2 := by
    unfold methodCallPos
    rw [if_pos (by rw [hp]; rfl)]
  rw [e1, e2]
  unfold methodCall
  rw [show args.length + ([] : List Keyword).length = args.length + 0 from rfl, hf, e3]
  simp only [pure_bind]
  rfl
theorem ints_app {vs : List Value} {xs : List Int} {ws : List Value} {ys : List Int} (a : IntsAre vs xs) (b : IntsAre ws ys) : IntsAre (vs ++ ws) (xs ++ ys) := by
  induction a with
  | nil => exact b
  | cons n t _ ih => exact .cons n t ih
theorem m_app (hE : SE c G n) (hl : LocOk c.cs ρ) (M : Ms c news₀ x ρ news m s.heap) {e : Expr} {px p1 p2 p3 : Pos} {acc : List Int} {i : Int} {rest : List Stmt} {Q : Flow → Shared → Prop} (hx : lkp ρ x = some (.own acc)) (hv : (wp G n).E e ρ (· = .int i)) (he : plainE e = true) (hf : rest1 x ρ = true) (hlen : acc.length ≤ 10000) (hp : (p1.endLine == p2.line) = true)
    
    (k : ∀ news' m' h' tk, Ms c news₀ x (put ρ x (.own (acc ++ [i]))) news' m' h' → wpAny (W g) c.A (execs rest c.env) Q noE { s with heap := h', toks := tk }) :
    wpAny (W g) c.A (execs (.Expr (.Call (.Attribute (.Name x px) "append" p1) [e] [] p2) p3 :: rest) c.env) Q noE s := by
  have hm := lkp_mem hx
  have hh : has ρ x = true := by
    have : ∀ r : Rho, x ∈ r.map (·.1) → has r x = true := fun r => by
      induction r with
      | nil => exact fun h => (nomatch h)
      | cons p r ih => exact fun h => (Decidable.em (x = p.1)).elim (fun e => has_yes e) fun e => (has_no e).trans (ih ((List.mem_cons.mp h).resolve_left e))
    exact this ρ hm
  obtain ⟨D, vs, nv, hD, hoff, hmem, hi⟩ := m_at hx M
  refine wpAny_execs_cons (wpAny_Expr_any ?_ (by show (c.cs.kind == .module && _) = false; rw [c.hk]; rfl))
  refine methodCall_KW (nameX_L M.st.F hD ?_ c.hk (hl x hm).1 (hl x hm).2) (mcall_eq (by rw [plain_star (r := []) (env := c.env) (plain_arg he)]; rfl) hp)
  refine listMethod_K M.st.N hmem PySem.F.slot_list_append PySem.F.type_list_append ?_
  refine Calls.callWith_builtin (show (backTo p2 (starEach [e] c.env)).any (·.1) = false from plain_any (by show (argE e && true) = true; rw [plain_arg he]; rfl)) ?_
  rw [plain_star (r := []) (env := c.env) (plain_arg he)]
  refine Calls.evalArgs_plain (Calls.spliced_cons (hE e ρ _ news m s _ hv hl M.st M.ag fun u z news1 h1 tk1 hz hr1 hs1 S1 => Calls.spliced_nil ?_))
  subst hz
  obtain ⟨t, rfl⟩ := hr1
  obtain ⟨l', N', ha, hk⟩ := News.split1 S1.N (hs1 _ hmem)
  have hsz : vs.toArray.size ≤ sizeLine := by rw [List.size_toArray, hi.length, sizeLine_eq]; exact Nat.le_trans hlen (Nat.le_of_ble_eq_true rfl)
  refine append_at (hsz := hsz) (N' _ (.head _)).1 fun h2 hs2 ho2 => ?_
  have M1 : Ms c news₀ x ρ news1 m h1 := ⟨S1, M.ag.sub hs1, M.sub.trans hs1, ⟨D, hD, hoff⟩⟩
  have F2 := S1.F.change hs2 (N' _ (.head _)).2.1 (N' _ (.head _)).2.2
  have N2 : News c.h₀ c.L h2 ((D, lisO (vs ++ [.int i t]) (nv + 1)) :: l') := fun p hp => (List.mem_cons.mp hp).elim (fun e => by
      rw [e]
      refine ⟨ho2.trans ?_, (N' _ (.head _)).2⟩
      show some _ = some (lisO _ _)
      unfold lisO
      rw [List.push_toArray]) fun hp => ⟨(hs2.2 _ (ha p hp)).trans (N' p (.tail _ hp)).1, (N' p (.tail _ hp)).2⟩
  exact k _ _ h2 tk1 (m_chg (s := { s with heap := h1 }) (acc := acc) (vs := vs) (nv := nv) hh hf M1 hD hoff hk F2 N2 (ints_app hi (.cons _ _ .nil)))

theorem m_rev (hl : LocOk c.cs ρ) (M : Ms c news₀ x ρ news m s.heap) {px p1 p2 p3 : Pos} {acc : List Int} {rest : List Stmt} {Q : Flow → Shared → Prop} (hx : lkp ρ x = some (.own acc)) (hf : rest1 x ρ = true) (hlen : acc.length ≤ 10000) (hh : has ρ x = true) (hp : (p1.endLine == p2.line) = true) 
    (k : ∀ news' m' h' tk, Ms c news₀ x (put ρ x (.own acc.reverse)) news' m' h' → wpAny (W g) c.A (execs rest c.env) Q noE { s with heap := h', toks := tk }) :
    wpAny (W g) c.A (execs (.Expr (.Call (.Attribute (.Name x px) "reverse" p1) [] [] p2) p3 :: rest) c.env) Q noE s := by
  have hm := lkp_mem hx
  obtain ⟨D, vs, nv, hD, hoff, hmem, hi⟩ := m_at hx M
  refine wpAny_execs_cons (wpAny_Expr_any ?_ (by show (c.cs.kind == .module && _) = false; rw [c.hk]; rfl))
  refine methodCall_KW (nameX_L M.st.F hD ?_ c.hk (hl x hm).1 (hl x hm).2) (mcall_eq rfl hp)
  refine listMethod_K M.st.N hmem PySem.F.slot_list_reverse PySem.F.type_list_reverse ?_
  refine Calls.callWith_builtin rfl (evalArgs_nil3 ?_)
  obtain ⟨l', N', ha, hk⟩ := News.split1 M.st.N hmem
  refine kl_reverse (its := vs.toArray) (l := vs.reverse) M.st.F N' rfl (.head ha) (by show vs.length ≤ _; rw [hi.length, sizeLine_eq]; exact Nat.le_trans hlen (Nat.le_of_ble_eq_true rfl)) fun h2 F2 N2 => ?_
  exact k _ _ h2 s.toks (m_chg (acc := acc) (vs := vs) (nv := nv) hh hf M hD hoff hk F2 N2 hi.reverse)
/-- x = [] -/
theorem m_new {px pos lp : Pos} {rest : List Stmt} {Q : Flow → Shared → Prop} (hx : has ρ x = true) (hl : LocOk c.cs ρ) (S : St c news m s.heap) (a : Ag c news ρ m)
    (k : ∀ news' m' h' tk, Ms c news x (put ρ x (.own [])) news' m' h' → wpAny (W g) c.A (execs rest c.env) Q noE { s with heap := h', toks := tk }) :
    wpAny (W g) c.A (execs (.Assign [.Name x px] (.List [] lp) pos :: rest) c.env) Q noE s := by
  refine wpAny_execs_cons (wpAny_Assign_Name (List_ (Calls.spliced_nil ?_)) rfl)
  refine newList_K S.F S.N (fun D h1 F1 N1 hlt => ?_) (Nat.zero_le _)
  refine storeX_L F1 N1 (fun h2 F2 N2 => k _ _ h2 _ ⟨⟨F2, N2⟩, ag_put (a.sub fun _ h => .tail _ h) ⟨D, [], 0, rfl, .head _, .nil⟩, fun _ h => .tail _ h, ⟨D, if_pos rfl, fun p hp => Nat.ne_of_lt (hlt p hp)⟩⟩) c.hk (hl x (has_mem hx)).1
/-- y, x = (e, []) -/
theorem m_new2 (hE : SE c G n) (hl : LocOk c.cs ρ) (S : St c news m s.heap) (a : Ag c news ρ m) {e : Expr} {y : Str} {py px tp ep lp pos : Pos} {k0 k' : Nat} {v : V} {rest : List Stmt} {Q : Flow → Shared → Prop} (hv : (wp G n).E e ρ (· = v)) (he : argE e = true) (hne : ¬ y = x) (hy : has ρ y = true) (hx : has ρ x = true)
    (hsw : ([e, .List [] lp].all (foldedForSure 8) || ![e, .List [] lp].all (constantsAlone 8)) = true) 
    (k : ∀ news' m' h' tk, Ms c news x (put (put ρ y v) x (.own [])) news' m' h' → wpAny (W g) c.A (execs rest c.env) Q noE { s with heap := h', toks := tk }) :
    wpAny (W g) c.A (execs (.Assign [.Tuple [.Name y py, .Name x px] k' tp] (.Tuple [e, .List [] lp] k0 ep) pos :: rest) c.env) Q noE s := by
  have hev : ∀ Q' : Value → Shared → Prop, (∀ ad u D news1 h1 tk1, R c.h₀ news1 u v → (D, lisO [] 0) ∈ news1 → (∀ p ∈ news, p.1 ≠ D) → Sub news news1 → St c news1 m h1 → (∀ Q'' : List Value → Shared → Prop, (∀ h2, St c news1 m h2 → Q'' [u, .ref D] { s with heap := h2, toks := tk1 }) → wpAny (W g) c.A (unpackItems (.ref ad) ([y, x] : List Str).length none) Q'' noE { s with heap := h1, toks := tk1 }) → Q' (.ref ad) { s with heap := h1, toks := tk1 }) → wpAny (W g) c.A (eval (.Tuple [e, .List [] lp] k0 ep) c.env) Q' noE s := fun Q' hQ => by
    refine Tuple_ ?_
    rw [plain_star (r := [.List [] lp]) (env := c.env) he]
    refine Calls.spliced_cons (hE e ρ _ news m s _ hv hl S a fun u z news1 h1 tk1 hz hr1 hs1 S1 => ?_)
    subst hz
    rw [plain_star (e := .List [] lp) (r := []) (env := c.env) rfl]
    refine Calls.spliced_cons (List_ (Calls.spliced_nil (newList_K S1.F S1.N (fun D h2 F2 N2 hlt => Calls.spliced_nil ?_) (Nat.zero_le _))))
    refine newTuple_N F2 N2 (fun h3 F3 N3 => hQ _ u D _ h3 tk1 (hr1.sub fun _ h => .tail _ (.tail _ h)) (.tail _ (.head _)) (fun p hp => Nat.ne_of_lt (hlt p (hs1 p hp))) (fun p hp => .tail _ (.tail _ (hs1 p hp))) ⟨F3, N3⟩ fun Q'' hQ'' => unpackItemsN_ F3 N3 (News.isTup N3 (.head _)) rfl rfl fun h4 F4 N4 => hQ'' h4 ⟨F4, N4⟩) (by rw [sizeLine_eq]; exact Nat.le_of_ble_eq_true rfl)
  obtain ⟨hsw, hsole⟩ := swap_many (env := c.env) (xs := [y, x]) (ts := [.Name y py, .Name x px]) (tp := tp) (p' := ep) (k := k') (k' := k0) rfl hsw
  have ly := (hl y (has_mem hy)).1
  have lx := (hl x (has_mem hx)).1
  rcases hsw with hsw | hsw
  · refine wpAny_execs_cons (Assign_Tuple (hev _ fun ad u D news1 h1 tk1 hru hmD hoff hsb S1 hun => ?_) (hsole _) hsw)
    show wpAny _ _ (standAt tp >>= fun _ => unpack (.ref ad) (assignEach [.Name y py, .Name x px] c.env)) _ _ _
    refine wpAny_bind (wpAny_standAt (wpAny_bind (wpAny_holding (hun _ fun h2 S2 => ?_))))
    show wpAny _ _ (holding [.ref D] (assign (.Name y py) c.env u) >>= fun _ => holding [] (assign (.Name x px) c.env (.ref D)) >>= fun _ => pure ()) _ _ _
    refine wpAny_bind (wpAny_holding (assign_Name (storeX_L S2.F S2.N (fun h3 F3 N3 => ?_) c.hk ly)))
    refine wpAny_bind (wpAny_holding (assign_Name (storeX_L F3 N3 (fun h4 F4 N4 => wpAny_pure ?_) c.hk lx)))
    exact k _ _ h4 _ ⟨⟨F4, N4⟩, ag_put (ag_put (a.sub hsb) hru) ⟨D, [], 0, rfl, hmD, .nil⟩, hsb, ⟨D, if_pos rfl, hoff⟩⟩
  · refine wpAny_execs_cons (Assign_Tuple_swapped (hev _ fun ad u D news1 h1 tk1 hru hmD hoff hsb S1 hun => hun _ fun h2 S2 => ?_) (hsole _) hsw)
    show wpAny _ _ (holding [u] (bindName c.env x (.ref D)) >>= fun _ => holding [] (bindName c.env y u) >>= fun _ => pure ()) _ _ _
    refine wpAny_bind (wpAny_holding (bindName_ (storeX_L S2.F S2.N (fun h3 F3 N3 => ?_) c.hk lx)))
    refine wpAny_bind (wpAny_holding (bindName_ (storeX_L F3 N3 (fun h4 F4 N4 => wpAny_pure ?_) c.hk ly)))
    refine k _ _ h4 _ ⟨⟨F4, N4⟩, ?_, hsb, ⟨D, (if_neg (fun e => hne e.symm)).trans (if_pos rfl), hoff⟩⟩
    rw [put_comm hne]
    exact ag_put (ag_put (a.sub hsb) ⟨D, [], 0, rfl, hmD, .nil⟩) hru
/-- return x[::-1] -/
theorem m_retrev (hE : SE c G n) (hl : LocOk c.cs ρ) (M : Ms c news₀ x ρ news m s.heap) {px p1 p2 p3 : Pos} {st : Expr} {acc : List Int} {rest : List Stmt} {Q : Flow → Shared → Prop} (hx : lkp ρ x = some (.own acc)) (hv : (wp G n).E st ρ (· = .int (-1))) (hlen : acc.length ≤ 10000) 
    (k : ∀ news' h' tk D, St c news' m h' → Sub news news' → R c.h₀ news' (.ref D) (.own acc.reverse) → Q (.ret (.ref D)) { s with heap := h', toks := tk }) :
    wpAny (W g) c.A (execs (.Return (some (.Subscript (.Name x px) (.Slice none none (some st) p1) p2)) p3 :: rest) c.env) Q noE s := by
  have hm := lkp_mem hx
  obtain ⟨D, vs, nv, hD, hoff, hmem, hi⟩ := m_at hx M
  refine wpAny_execs_cons (wpAny_Return_some (Subscript_ (nameX_L M.st.F hD ?_ c.hk (hl x hm).1 (hl x hm).2)))
  show wpAny _ _ ((pure .none : Sem Value) >>= fun l => holding [l] (pure .none) >>= fun r => holding [l, r] (eval st c.env) >>= fun z => newFields "slice" [l, r, z]) _ _ _
  refine wpAny_bind (wpAny_pure (wpAny_bind (wpAny_holding (wpAny_pure (wpAny_bind (wpAny_holding (hE st ρ _ news m s _ hv hl M.st M.ag fun u z news1 h1 tk1 hz hr1 hs1 S1 => ?_)))))))
  subst hz
  obtain ⟨t, rfl⟩ := hr1
  refine wpAny_newObj_type ?_ (Nat.le_of_ble_eq_true rfl)
  have hsub : subscripted (.Slice none none (some st) p1) false (.ref D) (.ref h1.objs.size) = operate [.ref D, .ref h1.objs.size] (getItem (.ref D) (.ref h1.objs.size)) := rfl
  have hlet : ∀ r, letTemporaryGo (.Name x px) (.ref D) r = pure () := fun _ => rfl
  refine krv_ints (s := { s with heap := h1, toks := tk1 }) S1.F S1.N (News.isList S1.N (hs1 _ hmem)) (isPart (-1) t) hi (fun D2 ws h2 F2 N2 hlt hi2 _ => ?_) hsub hlet (by rw [List.size_toArray, hi.length, sizeLine_eq]; exact Nat.le_trans hlen (Nat.le_of_ble_eq_true rfl))
  exact k _ h2 tk1 D2 ⟨F2, N2⟩ (fun p hp => .tail _ (hs1 p hp)) ⟨D2, ws, 0, rfl, .head _, hi2⟩
theorem m_whl (hB : SB c G n) {t : Expr} {body rest : List Stmt} {pos : Pos} {Q : Flow → Shared → Prop} {I : Rho → Prop} {μ : Rho → Nat} {X Y : Rho → Prop} (h0 : I ρ) (hl : LocOk c.cs ρ) (M : Ms c news₀ x ρ news m s.heap)
    (ht : ∀ ρ', I ρ' → (wp G n).B t ρ' fun b => Bool.casesOn (motive := fun _ => Prop) b (Y ρ') (X ρ'))
    (hb : ∀ ρ' nx m' h' tk (Qb : Flow → Shared → Prop), I ρ' → X ρ' → ρ'.map (·.1) = ρ.map (·.1) → Ms c news₀ x ρ' nx m' h' → (∀ ρ'' nx' m'' h'' tk'', I ρ'' → μ ρ'' < μ ρ' → ρ''.map (·.1) = ρ.map (·.1) → Ms c news₀ x ρ'' nx' m'' h'' → Qb .next { s with heap := h'', toks := tk'' }) →
      wpAny (W g) c.A (execs body c.env) Qb noE { s with heap := h', toks := tk })
    (hr : ∀ ρ' nx m' h' tk, I ρ' → Y ρ' → ρ'.map (·.1) = ρ.map (·.1) → Ms c news₀ x ρ' nx m' h' → wpAny (W g) c.A (execs rest c.env) Q noE { s with heap := h', toks := tk }) :
    wpAny (W g) c.A (execs (.While t body [] pos :: rest) c.env) Q noE s := by
  refine wpAny_execs_cons (While_inv2 (fun n m' nx => ∃ ρ', I ρ' ∧ μ ρ' = n ∧ ρ'.map (·.1) = ρ.map (·.1) ∧ Ag c nx ρ' m' ∧ Sub news₀ nx ∧ ∃ D, m' x = some (.ref D) ∧ ∀ p ∈ news₀, p.1 ≠ D) M.st.F M.st.N ⟨ρ, h0, rfl, rfl, M.ag, M.sub, M.at_⟩ ?_ PassesOwn.never)
  intro _ m1 news1 h1 tk1 F1 N1 ⟨ρ', hi, hμ, hk', a1, hs1, at1⟩
  subst hμ
  refine hB t ρ' _ news1 m1 _ _ (ht ρ' hi) (hl.same hk') ⟨F1, N1⟩ a1 fun b news2 h2 tk2 hp2 hs2 S2 => ?_
  have M2 : Ms c news₀ x ρ' news2 m1 h2 := ⟨S2, a1.sub hs2, hs1.trans hs2, at1⟩
  cases b with
  | false =>
    rw [if_neg Bool.false_ne_true]
    exact hr ρ' news2 m1 h2 tk2 hi hp2 hk' M2
  | true =>
    rw [if_pos rfl]
    exact hb ρ' news2 m1 h2 tk2 _ hi hp2 hk' M2 fun ρ'' nx' m'' h'' tk'' hi'' hμ hk'' M' => ⟨h'', tk'', m'', nx', μ ρ'', rfl, M'.st.F, M'.st.N, hμ, ρ'', hi'', rfl, hk'', M'.ag, M'.sub, M'.at_⟩
/-- an if without an else, whose body goes on -/
theorem m_if (hB : SB c G n) {t : Expr} {body rest : List Stmt} {pos : Pos} {Q : Flow → Shared → Prop} {X Y : Prop} (hl : LocOk c.cs ρ) (M : Ms c news₀ x ρ news m s.heap)
    (ht : (wp G n).B t ρ fun b => Bool.casesOn (motive := fun _ => Prop) b Y X)
    (hb : ∀ nx h' tk (Qb : Flow → Shared → Prop), X → Ms c news₀ x ρ nx m h' → (∀ s', wpAny (W g) c.A (execs rest c.env) Q noE s' → Qb .next s') → wpAny (W g) c.A (execs body c.env) Qb noE { s with heap := h', toks := tk })
    (hr : ∀ nx h' tk, Y → Ms c news₀ x ρ nx m h' → wpAny (W g) c.A (execs rest c.env) Q noE { s with heap := h', toks := tk }) :
    wpAny (W g) c.A (execs (.If t body [] pos :: rest) c.env) Q noE s := by
  refine wpAny_execs_cons (wpAny_If (hB t ρ _ news m s _ ht hl M.st M.ag fun b news1 h1 tk1 hp1 hs1 S1 => ?_))
  have M2 : Ms c news₀ x ρ news1 m h1 := ⟨S1, M.ag.sub hs1, M.sub.trans hs1, M.at_⟩
  cases b with
  | true => exact hb news1 h1 tk1 _ hp1 M2 fun s' h => h
  | false => exact wpAny_execs_nil (hr news1 h1 tk1 hp1 M2)
end

/-- the text's i-th statement is the def at a -/
noncomputable def FnI (g : Gl) (i : Nat) (a : Addr) : Prop := Option.casesOn (motive := fun _ => Prop) PW.main.body[i]? False fun s => Stmt.casesOn (motive_2 := fun _ => Prop) s (fun n ps b _ _ _ sc _ _ _ => FnK g n a ps b sc) (fun _ _ _ _ _ _ _ _ _ _ => False) (fun _ _ _ _ _ _ _ _ _ _ _ => False) (fun _ _ => False) (fun _ _ => False) (fun _ _ _ => False) (fun _ _ _ _ _ _ _ => False) (fun _ _ _ _ => False) (fun _ _ _ _ _ => False) (fun _ _ _ _ _ => False) (fun _ _ _ _ _ => False) (fun _ _ _ _ => False) (fun _ _ _ _ => False) (fun _ _ _ => False) (fun _ _ _ => False) (fun _ _ _ => False) (fun _ _ _ => False) (fun _ _ _ _ _ => False) (fun _ _ _ _ _ => False) (fun _ _ _ => False) (fun _ _ => False) (fun _ _ _ _ => False) (fun _ _ => False) (fun _ _ => False) (fun _ _ => False) (fun _ => False) (fun _ => False) (fun _ => False)
/-- what the written part says of the program's names -/
structure GA (g : Gl) : Prop where
  f5 : FnI g 5 97
  f6 : FnI g 6 104
  f7 : FnI g 7 111
  f8 : FnI g 8 118
  f9 : FnI g 9 125
  f10 : FnI g 10 132
  f11 : FnI g 11 139
  f12 : FnI g 12 146
  f13 : FnI g 13 153
  f14 : FnI g 14 160
  f15 : FnI g 15 167
  f16 : FnI g 16 174
  f17 : FnI g 17 181
  f18 : FnI g 18 188
  f20 : FnI g 20 195
  f21 : FnI g 21 202
  f22 : FnI g 22 209
  f23 : FnI g 23 216
  f24 : FnI g 24 221
  f25 : FnI g 25 226
  f26 : FnI g 26 233
  f27 : FnI g 27 240
  f28 : FnI g 28 247
  f29 : FnI g 29 254
  f30 : FnI g 30 261
  f31 : FnI g 31 268
  f32 : FnI g 32 275
  f33 : FnI g 33 280
  f34 : FnI g 34 287
  f35 : FnI g 35 294
  f36 : FnI g 36 301
  f37 : FnI g 37 308
  blanks : nsIn g.K mainGlobals "BLANKS" = some (some (.bytes #[32, 9, 10, 11, 12, 13] 189))
  nabs : nsIn g.K mainGlobals "abs" = some none
  nlen : nsIn g.K mainGlobals "len" = some none
  nmax : nsIn g.K mainGlobals "max" = some none
  nrange : nsIn g.K mainGlobals "range" = some none
  nbytes : nsIn g.K mainGlobals "bytes" = some none
  nlist : nsIn g.K mainGlobals "list" = some none
  nisi : nsIn g.K mainGlobals "isinstance" = some none
  nbool : nsIn g.K mainGlobals "bool" = some none

theorem l1 {α : Type} {ws : List α} (h : ws.length = 1) : ∃ a, ws = [a] := by
  match ws, h with | [a], _ => exact ⟨a, rfl⟩
theorem l2 {α : Type} {ws : List α} (h : ws.length = 2) : ∃ a b, ws = [a, b] := by
  match ws, h with | [a, b], _ => exact ⟨a, b, rfl⟩
theorem l3 {α : Type} {ws : List α} (h : ws.length = 3) : ∃ a b c, ws = [a, b, c] := by
  match ws, h with | [a, b, c], _ => exact ⟨a, b, c, rfl⟩
theorem l4 {α : Type} {ws : List α} (h : ws.length = 4) : ∃ a b c d, ws = [a, b, c, d] := by
  match ws, h with | [a, b, c, d], _ => exact ⟨a, b, c, d, rfl⟩
theorem l5 {α : Type} {ws : List α} (h : ws.length = 5) : ∃ a b c d e, ws = [a, b, c, d, e] := by
  match ws, h with | [a, b, c, d, e], _ => exact ⟨a, b, c, d, e, rfl⟩
noncomputable abbrev tb (fns : List Fn) : Tb := ⟨fns, [], []⟩

theorem gok0 {g : Gl} {d : Nat} {sc : Scope} : GOk g d sc (tb []) := ⟨fun _ h => (nomatch h), fun _ h => (nomatch h), fun _ h => (nomatch h)⟩
theorem gok_c {g : Gl} {d : Nat} {sc : Scope} {f : Fn} {T : Tb} (h : FnOk g d sc f) (k : GOk g d sc T) : GOk g d sc ⟨f :: T.fns, T.cons, T.orc⟩ :=
  ⟨fun x hx => (List.mem_cons.mp hx).elim (fun e => e ▸ h) (k.fns x), k.cons, k.orc⟩
theorem gok_k {g : Gl} {d : Nat} {sc : Scope} {x : Str} {v : V} {T : Tb} (h : CoOk g sc x v) (k : GOk g d sc T) : GOk g d sc ⟨T.fns, (x, v) :: T.cons, T.orc⟩ :=
  ⟨k.fns, fun p hp => (List.mem_cons.mp hp).elim (fun e => by rw [e]; exact h) (k.cons p), k.orc⟩
theorem gok_o {g : Gl} {d : Nat} {sc : Scope} {e : Expr} {sp : Rho → V → Prop} {T : Tb} (h : OrOk g d sc e sp) (k : GOk g d sc T) : GOk g d sc ⟨T.fns, T.cons, (e, sp) :: T.orc⟩ :=
  ⟨k.fns, k.cons, fun p hp => (List.mem_cons.mp hp).elim (fun e => by rw [e]; exact h) (k.orc p)⟩
theorem at_fn {g : Gl} {d : Nat} {x : Str} {a : Addr} {ps : Arguments} {b : List Stmt} {sc : Scope} {sp : List V → V → Prop} (H : FnK g x a ps b sc) (hc : ∀ xs r, sp xs r → Con g d (.ref a) xs r) : FnAt g d x sp := .fn a H.name H.keep hc

theorem big_of {n : Nat} (k : Nat) (h : n < 2 ^ k) (hk : k ≤ 3000) : n < Big := by
  unfold Big; exact Nat.lt_of_lt_of_le h (Nat.pow_le_pow_right (by decide) hk)
theorem big1 : (1 : Int).natAbs < Big := big_of 1 (by decide) (by decide)
theorem big_i {n : Int} (k : Nat) (h1 : -(2 ^ k) < n) (h2 : n < 2 ^ k) (hk : k ≤ 3000) : n.natAbs < Big := big_of k (by
  have : ((2 ^ k : Nat) : Int) = (2 : Int) ^ k := Int.natCast_pow 2 k
  omega) hk

section
variable {g : Gl} {d : Nat}
noncomputable def sAbs (xs : List V) (r : V) : Prop := ∃ a, xs = [.int a] ∧ r = .int (if a < 0 then -a else a)
theorem b_abs {xs : List V} {r : V} (h : sAbs xs r) : Con g d (.builtin "abs") xs r := by
  obtain ⟨a, rfl, rfl⟩ := h
  intro c news m s ws Q S hr kt
  obtain ⟨_, _, rfl, ⟨t, rfl⟩, rfl⟩ := hr
  exact call_abs_int fun u tk => kt _ _ news s.heap tk rfl ⟨u, rfl⟩ .rfl S
noncomputable def lenOf (v : V) (n : Nat) : Prop := (∃ l, v = .bytes l ∧ n = l.length) ∨ (∃ l, v = .lst l ∧ n = l.length) ∨ (∃ l, v = .own l ∧ n = l.length)
noncomputable def sLen (xs : List V) (r : V) : Prop := ∃ v n, xs = [v] ∧ lenOf v n ∧ r = .int (n : Int) ∧ n ≤ 1000000
theorem b_len {xs : List V} {r : V} (h : sLen xs r) : Con g d (.builtin "len") xs r := by
  obtain ⟨v, n, rfl, hv, rfl, hn⟩ := h
  intro c news m s ws Q S hr kt
  obtain ⟨w, _, rfl, hw, rfl⟩ := hr
  rcases hv with ⟨l, rfl, rfl⟩ | ⟨l, rfl, rfl⟩ | ⟨l, rfl, rfl⟩
  · obtain ⟨b, t, rfl, rfl⟩ := hw
    rw [KBw.ints_length] at hn
    exact len_bytes (by omega) (kt _ _ news s.heap _ rfl ⟨s.toks + 1, by rw [KBw.ints_length]⟩ .rfl S)
  · obtain ⟨a, vs, rfl, ⟨o, ho, q⟩, hi⟩ := hw
    have e := hi.length
    exact call_len_list (l := a) (items := vs.toArray) ⟨o, S.F.keep _ _ ho, q⟩ (by rw [List.size_toArray]; omega) (kt _ _ news s.heap _ rfl ⟨s.toks + 1, by rw [List.size_toArray, e]⟩ .rfl S)
  · obtain ⟨a, vs, nv, rfl, hm, hi⟩ := hw
    have e := hi.length
    exact call_len_list (News.isList S.N hm) (by rw [List.size_toArray]; omega) (kt _ _ news s.heap _ rfl ⟨s.toks + 1, by rw [List.size_toArray, e]⟩ .rfl S)
noncomputable def sMax (xs : List V) (r : V) : Prop := ∃ a b, xs = [.int a, .int b] ∧ r = .int (if b > a then b else a)
theorem b_max {xs : List V} {r : V} (h : sMax xs r) : Con g d (.builtin "max") xs r := by
  obtain ⟨a, b, rfl, rfl⟩ := h
  intro c news m s ws Q S hr kt
  obtain ⟨_, _, rfl, ⟨t, rfl⟩, _, _, rfl, ⟨u, rfl⟩, rfl⟩ := hr
  exact max_two_N rfl S.F S.N fun h' tk F' N' => kt _ _ news h' tk rfl ⟨_, rfl⟩ .rfl ⟨F', N'⟩
noncomputable def sRange (xs : List V) (r : V) : Prop := ∃ a, xs = [.int a] ∧ r = .rng a.toNat ∧ 0 ≤ a ∧ a ≤ 1000000
theorem b_range {xs : List V} {r : V} (h : sRange xs r) : Con g d (.type "range") xs r := by
  obtain ⟨a, rfl, rfl, h0, h1⟩ := h
  intro c news m s ws Q S hr kt
  obtain ⟨_, _, rfl, ⟨t, rfl⟩, rfl⟩ := hr
  refine call_range_1 ?_
  obtain ⟨f1, f2, f3, f4, f5⟩ := fresh_s S (o := rngO a.toNat s.toks t (s.toks + 1))
  have e : ((a.toNat : Nat) : Int) = a := by omega
  have q := kt (.ref s.heap.objs.size) (.rng a.toNat) ((s.heap.objs.size, rngO a.toNat s.toks t (s.toks + 1)) :: news) (s.heap.push (rngO a.toNat s.toks t (s.toks + 1))) (s.toks + 1 + 1) rfl ⟨by omega, _, _, _, _, rfl, .head _⟩ (fun _ h => .tail _ h) ⟨f5.F, fun p hp => (List.mem_cons.mp hp).elim (fun e => by rw [e]; exact ⟨f4, f1.symm, f2⟩) (f5.N p)⟩
  unfold rngO at q
  rw [e] at q
  exact q
end

/-! the laws -/
theorem wrap_eq {n w : Int} (h0 : 1 ≤ w) : n.bmod (2 ^ w.toNat) = if 1 * 2 ^ (w - 1).toNat ≤ Builtin.bitAnd n (1 * 2 ^ w.toNat - 1) then Builtin.bitAnd n (1 * 2 ^ w.toNat - 1) - 1 * 2 ^ w.toNat else Builtin.bitAnd n (1 * 2 ^ w.toNat - 1) := by
  obtain ⟨k, rfl⟩ : ∃ k : Nat, w = k + 1 := ⟨(w - 1).toNat, by omega⟩
  have e1 : ((k : Int) + 1).toNat = k + 1 := by omega
  have e2 : ((k : Int) + 1 - 1).toNat = k := by omega
  rw [e1, e2, Int.one_mul, Int.one_mul, kbt_mask, Int.bmod_def, Int.natCast_pow]
  have e3 : (2 : Int) ^ (k + 1) = 2 * 2 ^ k := by rw [Int.pow_succ, Int.mul_comm]
  show (if n % 2 ^ (k+1) < (2 ^ (k+1) + 1) / 2 then _ else _) = _
  have e4 : ((2 : Int) ^ (k+1) + 1) / 2 = 2 ^ k := by omega
  rw [e4]
  by_cases h : (2 : Int) ^ k ≤ n % 2 ^ (k + 1)
  · rw [if_pos h, if_neg (by omega)]; rfl
  · rw [if_neg h, if_pos (by omega)]; rfl
/-- an int brought into w bits -/
noncomputable def wr (w n : Int) : Int := n.bmod (2 ^ w.toNat)
noncomputable def sWrap (xs : List V) (r : V) : Prop := ∃ n w, xs = [.int n, .int w] ∧ r = .int (wr w n) ∧ 1 ≤ w ∧ w ≤ 400
theorem c_wrap {g : Gl} (H : GA g) {xs : List V} {r : V} (h : sWrap xs r) : Con g 1 (.ref 97) xs r := by
  obtain ⟨n, w, rfl, rfl, h0, h1⟩ := h
  have H : FnK g _ 97 _ _ _ := H.f5
  refine con2 H ["n", "width"] ["low"] (tb []) 12 gok0 (by decide +kernel) rfl rfl (fun ws fd h e1 e2 e3 => by obtain ⟨a, b, rfl⟩ := l2 h; cases fd; cases e1; cases e2; cases e3; rfl) ?_
  unfold wr
  rw [wrap_eq h0]
  exact Exists.intro _ (And.intro (And.intro ⟨big1, by omega, by omega⟩ rfl) (And.intro ⟨big1, by omega, by omega⟩ (And.intro (fun h => And.intro ⟨big1, by omega, by omega⟩ (congrArg (fun z => Fl.ret (.int z)) (if_pos h).symm)) (fun h => congrArg (fun z => Fl.ret (.int z)) (if_neg h).symm))))

theorem pow1 (w : Int) : (1 : Int) * 2 ^ w.toNat = ((2 ^ w.toNat : Nat) : Int) := by rw [Int.one_mul, Int.natCast_pow]; rfl
theorem pw_pos (w : Int) : (0 : Int) < 1 * 2 ^ w.toNat := by rw [pow1]; have := Nat.pow_pos (n := w.toNat) (show 0 < 2 by decide); omega
theorem cut_eq {n w : Int} (h0 : 1 ≤ w) : wr w n = if 1 * 2 ^ w.toNat ≤ n.fmod (1 * 2 ^ w.toNat) + n.fmod (1 * 2 ^ w.toNat) then n.fmod (1 * 2 ^ w.toNat) - 1 * 2 ^ w.toNat else n.fmod (1 * 2 ^ w.toNat) := by
  have hp := pw_pos w
  rw [Int.fmod_eq_emod_of_nonneg _ (Int.le_of_lt hp)]
  unfold wr
  obtain ⟨k, rfl⟩ : ∃ k : Nat, w = k + 1 := ⟨(w - 1).toNat, by omega⟩
  have e1 : ((k : Int) + 1).toNat = k + 1 := by omega
  rw [pow1] at hp ⊢
  rw [e1] at hp ⊢
  rw [Int.bmod_def]
  have e3 : (2 : Nat) ^ (k + 1) = 2 * 2 ^ k := by rw [Nat.pow_succ, Nat.mul_comm]
  by_cases h : ((2 ^ (k + 1) : Nat) : Int) ≤ n % ((2 ^ (k + 1) : Nat) : Int) + n % ((2 ^ (k + 1) : Nat) : Int)
  · rw [if_pos h, if_neg (by omega)]
  · rw [if_neg h, if_pos (by omega)]
theorem c_cut {g : Gl} (H : GA g) {xs : List V} {r : V} (h : sWrap xs r) : Con g 1 (.ref 209) xs r := by
  obtain ⟨n, w, rfl, rfl, h0, h1⟩ := h
  have H' : FnK g _ 209 _ _ _ := H.f22
  refine con2 H' ["n", "width"] ["whole", "rest"] (tb []) 12 gok0 (by decide +kernel) rfl rfl (fun ws fd h e1 e2 e3 => by obtain ⟨a, b, rfl⟩ := l2 h; cases fd; cases e1; cases e2; cases e3; rfl) ?_
  rw [cut_eq h0]
  refine Exists.intro _ (And.intro (And.intro ⟨big1, by omega, by omega⟩ rfl) (Exists.intro _ (And.intro (And.intro ?_ rfl) (And.intro (fun h => ?_) (fun h => ?_)))))
  · exact Int.ne_of_gt (pw_pos w)
  · exact congrArg (fun z => Fl.ret (.int z)) (if_pos h).symm
  · exact congrArg (fun z => Fl.ret (.int z)) (if_neg h).symm

noncomputable def sDiv (xs : List V) (r : V) : Prop := ∃ a b, xs = [.int a, .int b] ∧ r = .int (a.tdiv b) ∧ b ≠ 0 ∧ b.natAbs < Big
theorem c_divide {g : Gl} (H : GA g) {xs : List V} {r : V} (h : sDiv xs r) : Con g 1 (.ref 104) xs r := by
  obtain ⟨a, b, rfl, rfl, h0, h1⟩ := h
  have H' : FnK g _ 104 _ _ _ := H.f6
  refine con2 H' ["a", "b"] ["found"] ⟨[⟨"abs", sAbs⟩], [], []⟩ 12 (gok_c (f := ⟨"abs", sAbs⟩) ⟨by decide +kernel, by decide +kernel, .bi "abs" H.nabs (by decide +kernel) (by decide) fun xs r h => b_abs h⟩ gok0) (by decide +kernel) rfl rfl (fun ws fd h e1 e2 e3 => by obtain ⟨a, b, rfl⟩ := l2 h; cases fd; cases e1; cases e2; cases e3; rfl) ?_
  refine Exists.intro _ (And.intro (Exists.intro _ (And.intro ⟨a, rfl, rfl⟩ (Exists.intro _ (And.intro ⟨b, rfl, rfl⟩ (And.intro ⟨?_, ?_⟩ rfl))))) (And.intro (fun ha => And.intro (fun hb => ?_) (fun hb => ?_)) (fun ha => And.intro (fun hb => ?_) (fun hb => ?_))))
  · split <;> omega
  · split <;> omega
  · refine congrArg (fun z => Fl.ret (.int z)) ?_
    rw [if_pos ha, if_pos hb, ← Int.tdiv_eq_ediv_of_nonneg (by omega), Int.neg_tdiv_neg]
  · refine congrArg (fun z => Fl.ret (.int z)) ?_
    rw [if_pos ha, if_neg hb, ← Int.tdiv_eq_ediv_of_nonneg (by omega), Int.neg_tdiv, Int.neg_neg]
  · refine congrArg (fun z => Fl.ret (.int z)) ?_
    rw [if_neg ha, if_pos hb, ← Int.tdiv_eq_ediv_of_nonneg (by omega), Int.tdiv_neg, Int.neg_neg]
  · refine congrArg (fun z => Fl.ret (.int z)) ?_
    rw [if_neg ha, if_neg hb, ← Int.tdiv_eq_ediv_of_nonneg (by omega)]

/-- the sum of six that tells a blank -/
noncomputable def blanks : List Int := [32, 9, 10, 11, 12, 13]
noncomputable def sBlank (xs : List V) (r : V) : Prop := ∃ o, xs = [.int o] ∧ r = .bool (decide (o ∈ blanks)) ∧ 0 ≤ o ∧ o < 256
theorem c_blank {g : Gl} (H : GA g) {xs : List V} {r : V} (h : sBlank xs r) : Con g 1 (.ref 125) xs r := by
  obtain ⟨o, rfl, rfl, h0, h1⟩ := h
  have H' : FnK g _ 125 _ _ _ := H.f9
  refine con2 H' ["octet"] [] ⟨[], [("BLANKS", V.bytes blanks)], []⟩ 12 (gok_k (x := "BLANKS") (v := V.bytes blanks) ⟨by decide +kernel, by decide +kernel, ⟨_, H.blanks, fun h news => (show isY blanks _ from ⟨_, _, rfl, rfl⟩)⟩⟩ gok0) (by decide +kernel) rfl rfl (fun ws fd h e1 e2 e3 => by obtain ⟨a, rfl⟩ := l1 h; cases fd; cases e1; cases e2; cases e3; rfl) ?_
  refine And.intro ⟨h0, h1⟩ (And.intro (fun h => ?_) (fun h => ?_))
  · exact congrArg (fun z => Fl.ret (.bool z)) (decide_eq_true h).symm
  · exact congrArg (fun z => Fl.ret (.bool z)) (decide_eq_false h).symm

/-- an octet's worth as a digit, or -1 -/
noncomputable def dg (o : Int) : Int := if 48 ≤ o ∧ o ≤ 57 then o - 48 else if 97 ≤ o ∧ o ≤ 122 then o - 87 else if 65 ≤ o ∧ o ≤ 90 then o - 55 else -1
noncomputable def sDig (xs : List V) (r : V) : Prop := ∃ o, xs = [.int o] ∧ r = .int (dg o)
theorem c_digit {g : Gl} (H : GA g) {xs : List V} {r : V} (h : sDig xs r) : Con g 1 (.ref 132) xs r := by
  obtain ⟨o, rfl, rfl⟩ := h
  have H' : FnK g _ 132 _ _ _ := H.f10
  refine con2 H' ["octet"] [] (tb []) 12 gok0 (by decide +kernel) rfl rfl (fun ws fd h e1 e2 e3 => by obtain ⟨a, rfl⟩ := l1 h; cases fd; cases e1; cases e2; cases e3; rfl) ?_
  have e : ∀ z, z = dg o → Fl.ret (.int z) = Fl.ret (.int (dg o)) := fun z h => congrArg (fun z => Fl.ret (.int z)) h
  have k3 : ¬ (48 ≤ o ∧ o ≤ 57) → ¬ (97 ≤ o ∧ o ≤ 122) → ((65 ≤ o → ((o ≤ 90 → Fl.ret (.int (o - 55)) = Fl.ret (.int (dg o))) ∧ (¬ o ≤ 90 → Fl.ret (.int (-1)) = Fl.ret (.int (dg o))))) ∧ (¬ 65 ≤ o → Fl.ret (.int (-1)) = Fl.ret (.int (dg o)))) := fun h1 h2 =>
    And.intro (fun a => And.intro (fun b => e _ (by unfold dg; rw [if_neg h1, if_neg h2, if_pos ⟨a, b⟩])) fun b => e _ (by unfold dg; rw [if_neg h1, if_neg h2, if_neg (fun q => b q.2)])) fun a => e _ (by unfold dg; rw [if_neg h1, if_neg h2, if_neg (fun q => a q.1)])
  have k2 : ¬ (48 ≤ o ∧ o ≤ 57) → ((97 ≤ o → ((o ≤ 122 → Fl.ret (.int (o - 87)) = Fl.ret (.int (dg o))) ∧ (¬ o ≤ 122 → ((65 ≤ o → ((o ≤ 90 → Fl.ret (.int (o - 55)) = Fl.ret (.int (dg o))) ∧ (¬ o ≤ 90 → Fl.ret (.int (-1)) = Fl.ret (.int (dg o))))) ∧ (¬ 65 ≤ o → Fl.ret (.int (-1)) = Fl.ret (.int (dg o))))))) ∧ (¬ 97 ≤ o → ((65 ≤ o → ((o ≤ 90 → Fl.ret (.int (o - 55)) = Fl.ret (.int (dg o))) ∧ (¬ o ≤ 90 → Fl.ret (.int (-1)) = Fl.ret (.int (dg o))))) ∧ (¬ 65 ≤ o → Fl.ret (.int (-1)) = Fl.ret (.int (dg o)))))) := fun h1 =>
    And.intro (fun a => And.intro (fun b => e _ (by unfold dg; rw [if_neg h1, if_pos ⟨a, b⟩])) fun b => k3 h1 (fun q => b q.2)) fun a => k3 h1 (fun q => a q.1)
  exact And.intro (fun a => And.intro (fun b => e _ (by unfold dg; rw [if_pos ⟨a, b⟩])) fun b => k2 (fun q => b q.2)) fun a => k2 (fun q => a q.1)

/-- a name's int, as a number -/
noncomputable def gI (ρ : Rho) (x : Str) : Nat := match lkp ρ x with
  | some (.int i) => i.toNat
  | _ => 0
/-- how many blanks stand first -/
noncomputable def lead : List Int → Nat
  | [] => 0
  | o :: r => if o ∈ blanks then lead r + 1 else 0
theorem drop_cons {l : List Int} {k : Nat} (h : k < l.length) : l.drop k = l.getD k 0 :: l.drop (k + 1) := by
  rw [List.drop_eq_getElem_cons h, List.getD_eq_getElem?_getD, List.getElem?_eq_getElem h]; rfl
theorem tn1 (k : Nat) : ((k : Int) + 1).toNat = k + 1 := by omega
theorem tn0 (k : Nat) : ((k : Int)).toNat = k := by omega
noncomputable def sSkip (xs : List V) (r : V) : Prop := ∃ l a, xs = [.bytes l, .int a] ∧ r = .int (a + (lead (l.drop a.toNat) : Nat)) ∧ 0 ≤ a ∧ a ≤ l.length ∧ l.length ≤ 100
theorem c_skip {g : Gl} (H : GA g) {xs : List V} {r : V} (h : sSkip xs r) : Con g 2 (.ref 146) xs r := by
  obtain ⟨l, a, rfl, rfl, h0, h1, h2⟩ := h
  obtain ⟨a, rfl⟩ : ∃ k : Nat, a = k := ⟨a.toNat, by omega⟩
  have H' : FnK g _ 146 _ _ _ := H.f12
  refine con2 H' ["text", "at"] [] ⟨[⟨"len", sLen⟩, ⟨"is_blank", sBlank⟩], [], []⟩ 16 (gok_c (f := ⟨"len", sLen⟩) ⟨by decide +kernel, by decide +kernel, .bi "len" H.nlen (by decide +kernel) (by decide) fun xs r h => b_len h⟩ (gok_c (f := ⟨"is_blank", sBlank⟩) ⟨by decide +kernel, by decide +kernel, at_fn (show FnK g _ 125 _ _ _ from H.f9) fun xs r h => (c_blank H h)⟩ gok0)) (by decide +kernel) rfl rfl (fun ws fd h e1 e2 e3 => by obtain ⟨a, b, rfl⟩ := l2 h; cases fd; cases e1; cases e2; cases e3; rfl) ?_
  refine Exists.intro (fun ρ => ∃ k : Nat, ρ = ([("text", some (.bytes l)), ("at", some (.int (k : Int)))] : Rho) ∧ k ≤ l.length ∧ k + lead (l.drop k) = a + lead (l.drop a)) (Exists.intro (fun ρ => l.length - gI ρ "at") (And.intro ⟨a, rfl, by omega, rfl⟩ ?_))
  rintro ρ' ⟨k, rfl, hk, e⟩
  rw [tn0]
  have hend : k = a + lead (l.drop a) → Fl.ret (.int (k : Int)) = Fl.ret (.int ((a : Int) + (lead (l.drop a) : Nat))) := fun h => by rw [h]; exact congrArg (fun z => Fl.ret (.int z)) (by omega)
  refine Exists.intro _ (And.intro ⟨_, _, rfl, .inl ⟨l, rfl, rfl⟩, rfl, by omega⟩ (And.intro (fun hlt => ?_) (fun hge => ?_)))
  · have hk' : k < l.length := by omega
    have hd := drop_cons hk'
    refine And.intro ⟨⟨by omega, by omega⟩, by omega⟩ (fun hb => Exists.intro _ (And.intro ⟨_, rfl, rfl, hb.1, hb.2⟩ ?_))
    rw [tn0]
    by_cases hm : l.getD k 0 ∈ blanks
    · rw [decide_eq_true hm]
      have e3 : lead (l.drop k) = lead (l.drop (k + 1)) + 1 := by rw [hd]; exact if_pos hm
      exact Exists.intro _ (And.intro rfl ⟨⟨k + 1, rfl, by omega, by rw [← e, e3]; omega⟩, by show l.length - ((k : Int) + 1).toNat < l.length - ((k : Int)).toNat; omega⟩)
    · rw [decide_eq_false hm]
      have e3 : lead (l.drop k) = 0 := by rw [hd]; exact if_neg hm
      exact hend (by omega)
  · have e3 : l.drop k = [] := List.drop_eq_nil_of_le (by omega)
    rw [e3] at e
    exact hend e.symm.symm

/-- the number that the digits tell, and how many they are -/
noncomputable def rd (b : Int) : Int → List Int → Int × Nat
  | acc, [] => (acc, 0)
  | acc, o :: r => if dg o < 0 ∨ b ≤ dg o then (acc, 0) else ((rd b (acc * b + dg o) r).1, (rd b (acc * b + dg o) r).2 + 1)
noncomputable def sRead (xs : List V) (r : V) : Prop := ∃ l a b, xs = [.bytes l, .int a, .int b] ∧ r = .pair (.int (rd b 0 (l.drop a.toNat)).1) (.int (a + ((rd b 0 (l.drop a.toNat)).2 : Nat))) ∧ 0 ≤ a ∧ a ≤ l.length ∧ l.length ≤ 100 ∧ 2 ≤ b ∧ b ≤ 36
theorem pow36 {k : Nat} (h : k ≤ 100) : (36 : Int) ^ k ≤ 36 ^ 100 := by
  have := Nat.pow_le_pow_right (n := 36) (by decide) h
  have e : ∀ n : Nat, ((36 ^ n : Nat) : Int) = 36 ^ n := fun n => Int.natCast_pow 36 n
  rw [← e, ← e]; exact Int.ofNat_le.mpr this
theorem kpow : ∀ a : Nat, (0 : Int) < 36 ^ a := fun a => Int.pow_pos (by decide)
theorem c_read {g : Gl} (H : GA g) {xs : List V} {r : V} (h : sRead xs r) : Con g 2 (.ref 139) xs r := by
  obtain ⟨l, a, b, rfl, rfl, h0, h1, h2, h3, h4⟩ := h
  obtain ⟨a, rfl⟩ : ∃ k : Nat, a = k := ⟨a.toNat, by omega⟩
  have H' : FnK g _ 139 _ _ _ := H.f11
  refine con2 H' ["text", "at", "base"] ["found", "digit"] ⟨[⟨"len", sLen⟩, ⟨"digit_of", sDig⟩], [], []⟩ 16 (gok_c (f := ⟨"len", sLen⟩) ⟨by decide +kernel, by decide +kernel, .bi "len" H.nlen (by decide +kernel) (by decide) fun xs r h => b_len h⟩ (gok_c (f := ⟨"digit_of", sDig⟩) ⟨by decide +kernel, by decide +kernel, at_fn (show FnK g _ 132 _ _ _ from H.f10) fun xs r h => (c_digit H h)⟩ gok0)) (by decide +kernel) rfl rfl (fun ws fd h e1 e2 e3 => by obtain ⟨a, b, c, rfl⟩ := l3 h; cases fd; cases e1; cases e2; cases e3; rfl) ?_
  rw [tn0]
  refine Exists.intro _ (And.intro rfl (Exists.intro (fun ρ => ∃ (k : Nat) (f : Int) (dv : Option V), ρ = ([("text", some (.bytes l)), ("at", some (.int (k : Int))), ("base", some (.int b)), ("found", some (.int f)), ("digit", dv)] : Rho) ∧ k ≤ l.length ∧ a ≤ k ∧ 0 ≤ f ∧ f < 36 ^ k ∧ (rd b f (l.drop k)).1 = (rd b 0 (l.drop a)).1 ∧ k + (rd b f (l.drop k)).2 = a + (rd b 0 (l.drop a)).2) (Exists.intro (fun ρ => l.length - gI ρ "at") (And.intro ⟨a, 0, none, rfl, by omega, by omega, by omega, ?_, rfl, rfl⟩ ?_))))
  · exact kpow a
  rintro ρ' ⟨k, f, dv, rfl, hk, hak, hf, hf2, e1, e2⟩
  have hend : (rd b f (l.drop k)) = (f, 0) → Fl.ret (.pair (.int f) (.int (k : Int))) = Fl.ret (.pair (.int (rd b 0 (l.drop a)).1) (.int ((a : Int) + ((rd b 0 (l.drop a)).2 : Nat)))) := fun h => by
    rw [h] at e1 e2
    rw [← e1]
    have : (a : Int) + ((rd b 0 (l.drop a)).2 : Nat) = k := by omega
    rw [this]
  refine Exists.intro _ (And.intro ⟨_, _, rfl, .inl ⟨l, rfl, rfl⟩, rfl, by omega⟩ (And.intro (fun hlt => ?_) (fun hge => ?_)))
  · have hk' : k < l.length := by omega
    have hd := drop_cons hk'
    refine Exists.intro _ (And.intro (And.intro ⟨⟨by omega, by omega⟩, by omega⟩ (fun hb => Exists.intro _ (And.intro ⟨_, rfl, rfl⟩ rfl))) ?_)
    rw [tn0]
    have hbrk : (dg (l.getD k 0) < 0 ∨ b ≤ dg (l.getD k 0)) → Fl.ret (.pair (.int f) (.int (k : Int))) = Fl.ret (.pair (.int (rd b 0 (l.drop a)).1) (.int ((a : Int) + ((rd b 0 (l.drop a)).2 : Nat)))) := fun h => hend (by rw [hd]; exact if_pos h)
    refine And.intro (fun hneg => hbrk (.inl hneg)) (fun hnn => And.intro (fun hge => hbrk (.inr hge)) (fun hlb => ?_))
    have e3 : rd b f (l.drop k) = ((rd b (f * b + dg (l.getD k 0)) (l.drop (k + 1))).1, (rd b (f * b + dg (l.getD k 0)) (l.drop (k + 1))).2 + 1) := by rw [hd]; exact if_neg (fun h => h.elim hnn hlb)
    rw [e3] at e1 e2
    have p1 := pow36 (k := k) (by omega)
    have p2 : (36 : Int) ^ (k + 1) = 36 ^ k * 36 := Int.pow_succ _ _
    have p3 : f * b ≤ f * 36 := Int.mul_le_mul_of_nonneg_left h4 hf
    have p4 : 0 ≤ f * b := Int.mul_nonneg hf (by omega)
    refine Exists.intro _ (And.intro (And.intro ⟨big_i 600 (by omega) (Int.lt_of_lt_of_le hf2 (Int.le_trans p1 (by decide +kernel))) (by decide), big_i 10 (by omega) (by omega) (by decide)⟩ rfl) (Exists.intro _ (And.intro rfl ⟨⟨k + 1, _, _, rfl, by omega, by omega, by omega, by omega, e1, by omega⟩, by show l.length - ((k : Int) + 1).toNat < l.length - ((k : Int)).toNat; omega⟩)))
  · have e3 : l.drop k = [] := List.drop_eq_nil_of_le (by omega)
    exact hend (by rw [e3]; rfl)

noncomputable def lg (n : Int) : Int := if n ≤ 0 then -1 else (Nat.log2 n.toNat : Nat)
theorem lg_half {k : Int} (h : 0 < k) : lg k = lg (k / 2) + 1 := by
  unfold lg
  rw [if_neg (by omega)]
  by_cases h1 : k = 1
  · subst h1; decide
  · rw [if_neg (by omega), Nat.log2_def, if_pos (by omega)]
    have : k.toNat / 2 = (k / 2).toNat := by omega
    rw [this]; omega
noncomputable def sLog (xs : List V) (r : V) : Prop := ∃ n, xs = [.int n] ∧ r = .int (lg n)
theorem c_log2 {g : Gl} (H : GA g) {xs : List V} {r : V} (h : sLog xs r) : Con g 1 (.ref 181) xs r := by
  obtain ⟨n, rfl, rfl⟩ := h
  have H' : FnK g _ 181 _ _ _ := H.f17
  refine con2 H' ["n"] ["found"] (tb []) 14 gok0 (by decide +kernel) rfl rfl (fun ws fd h e1 e2 e3 => by obtain ⟨a, rfl⟩ := l1 h; cases fd; cases e1; cases e2; cases e3; rfl) ?_
  refine Exists.intro _ (And.intro rfl (Exists.intro (fun ρ => ∃ k f : Int, ρ = ([("n", some (.int k)), ("found", some (.int f))] : Rho) ∧ f + (lg k + 1) = lg n) (Exists.intro (fun ρ => gI ρ "n") (And.intro ⟨n, -1, rfl, by omega⟩ ?_))))
  rintro ρ' ⟨k, f, rfl, e⟩
  refine And.intro (fun h0 => ?_) (fun h0 => ?_)
  · refine Exists.intro _ (And.intro (And.intro (by decide) rfl) (Exists.intro _ (And.intro rfl ⟨⟨_, _, rfl, ?_⟩, ?_⟩)))
    · rw [lg_half h0] at e
      show f + 1 + (lg (k / 2) + 1) = lg n
      omega
    · show (k / 2).toNat < k.toNat
      omega
  · have : lg k = -1 := if_pos (by omega)
    exact congrArg (fun z => Fl.ret (.int z)) (by omega)

noncomputable def sCeil (xs : List V) (r : V) : Prop := ∃ n, xs = [.int n] ∧ r = .int (lg (n - 1) + 1)
theorem c_ceil {g : Gl} (H : GA g) {xs : List V} {r : V} (h : sCeil xs r) : Con g 2 (.ref 188) xs r := by
  obtain ⟨n, rfl, rfl⟩ := h
  have H' : FnK g _ 188 _ _ _ := H.f18
  refine con2 H' ["n"] [] ⟨[⟨"log2", sLog⟩], [], []⟩ 14 (gok_c (f := ⟨"log2", sLog⟩) ⟨by decide +kernel, by decide +kernel, at_fn (show FnK g _ 181 _ _ _ from H.f17) fun xs r h => (c_log2 H h)⟩ gok0) (by decide +kernel) rfl rfl (fun ws fd h e1 e2 e3 => by obtain ⟨a, rfl⟩ := l1 h; cases fd; cases e1; cases e2; cases e3; rfl) ?_
  exact Exists.intro _ (And.intro ⟨_, rfl, rfl⟩ rfl)

noncomputable def fbl : Nat → Int → Int → Int × Int
  | 0, x, s => (x, s)
  | k + 1, x, s => if 16 ≤ x then fbl k ((x + 1) / 2) (s + 1) else (x, s)
noncomputable def fbv (n : Int) : Int := if (fbl 20 n 0).1 < 8 then (fbl 20 n 0).1 else ((fbl 20 n 0).2 + 1) * 8 + ((fbl 20 n 0).1 - 8)
theorem bor8 {a b : Int} (_h0 : 0 ≤ a) (h1 : 0 ≤ b) (h2 : b < 8) : Builtin.bitOr (a * 8) b = a * 8 + b := by
  have z : Builtin.bitAnd a 0 = 0 := by
    have := kbt_mask a 0
    rw [show (2 : Int) ^ 0 - 1 = 0 from rfl] at this
    rw [this]; exact Int.emod_one a
  have e : Builtin.bitAnd (a * 8) b = 0 := by
    rw [kbt_halves, if_neg (by omega), kbt_halves, if_neg (by omega), kbt_halves, if_neg (by omega)]
    have e1 : a * 8 / 2 / 2 / 2 = a := by omega
    have e2 : b / 2 / 2 / 2 = 0 := by omega
    rw [e1, e2, z]; rfl
  rw [bitOr_and, e]; omega
noncomputable def sFb (xs : List V) (r : V) : Prop := ∃ n, xs = [.int n] ∧ r = .int (fbv n) ∧ 0 ≤ n ∧ n < 1000000
theorem c_fb {g : Gl} (H : GA g) {xs : List V} {r : V} (h : sFb xs r) : Con g 1 (.ref 167) xs r := by
  obtain ⟨n, rfl, rfl, h0, h1⟩ := h
  have H' : FnK g _ 167 _ _ _ := H.f15
  refine con2 H' ["x"] ["shift"] (tb []) 16 gok0 (by decide +kernel) rfl rfl (fun ws fd h e1 e2 e3 => by obtain ⟨a, rfl⟩ := l1 h; cases fd; cases e1; cases e2; cases e3; rfl) ?_
  refine Exists.intro _ (And.intro rfl (Exists.intro (fun ρ => ∃ (k : Nat) (x s : Int), ρ = ([("x", some (.int x)), ("shift", some (.int s))] : Rho) ∧ fbl k x s = fbl 20 n 0 ∧ 0 ≤ x ∧ 0 ≤ s ∧ s + k ≤ 20 ∧ x ≤ 8 * ((2 ^ k : Nat) : Int)) (Exists.intro (fun ρ => gI ρ "x") (And.intro ⟨20, n, 0, rfl, rfl, h0, by omega, by omega, by omega⟩ ?_))))
  rintro ρ' ⟨k, x, s, rfl, e, hx, hs, hk, hb⟩
  refine And.intro (fun hge => ?_) (fun hlt => ?_)
  · cases k with
    | zero => omega
    | succ k =>
      have e2 : fbl (k + 1) x s = fbl k ((x + 1) / 2) (s + 1) := if_pos hge
      rw [e2] at e
      rw [Nat.pow_succ] at hb
      exact Exists.intro _ (And.intro (And.intro (by decide) rfl) (Exists.intro _ (And.intro rfl ⟨⟨k, (x + 1) / 2, s + 1, rfl, e, by omega, by omega, by omega, by omega⟩, by show ((x + 1) / 2).toNat < x.toNat; omega⟩)))
  · have e3 : fbl k x s = (x, s) := by cases k with
      | zero => rfl
      | succ k => exact if_neg (by omega)
    rw [e3] at e
    refine And.intro (fun h8 => ?_) (fun h8 => And.intro ⟨big_i 10 (by omega) (by omega) (by decide), by decide, by decide⟩ ?_)
    · unfold fbv
      rw [← e, if_pos h8]
      exact rfl
    · unfold fbv
      rw [← e, if_neg h8]
      exact congrArg (fun z => Fl.ret (.int z)) (bor8 (by omega) (by omega) (by omega))

noncomputable def bfv (x : Int) : Int := if (x / 8) % 32 = 0 then x else (x % 8 + 8) * 2 ^ ((x / 8) % 32 - 1).toNat
noncomputable def sBf (xs : List V) (r : V) : Prop := ∃ n, xs = [.int n] ∧ r = .int (bfv n)
theorem c_bf {g : Gl} (H : GA g) {xs : List V} {r : V} (h : sBf xs r) : Con g 1 (.ref 174) xs r := by
  obtain ⟨x, rfl, rfl⟩ := h
  have H' : FnK g _ 174 _ _ _ := H.f16
  refine con2 H' ["x"] ["shift"] (tb []) 16 gok0 (by decide +kernel) rfl rfl (fun ws fd h e1 e2 e3 => by obtain ⟨a, rfl⟩ := l1 h; cases fd; cases e1; cases e2; cases e3; rfl) ?_
  refine Exists.intro (.int ((x / 8) % 32)) (And.intro (And.intro (by decide) (congrArg V.int (bitAnd_m5 (x / 8)))) (And.intro (fun hz => ?_) (fun hz => ?_)))
  · exact congrArg (fun z => Fl.ret (.int z)) (if_pos hz).symm
  · have e : Builtin.bitAnd x 7 = x % 8 := bitAnd_m3 x
    refine And.intro ⟨?_, by omega, by omega⟩ ?_
    · rw [e]; exact big_i 10 (by omega) (by omega) (by decide)
    · rw [e]; exact congrArg (fun z => Fl.ret (.int z)) (if_neg hz).symm

/-- a cell of the script, which goes on without end -/
noncomputable def cell (ns : List Int) (a : Int) : Int := if ns.length = 0 then 613 * a * a + 29 * a + 3 else ns.getD (a.fmod ns.length).toNat 0 + a / ns.length
noncomputable def sCell (xs : List V) (r : V) : Prop := ∃ ns a, xs = [.lst ns, .int a] ∧ r = .int (cell ns a) ∧ ns.length ≤ 63 ∧ 0 ≤ a ∧ a ≤ 1000
theorem c_cell {g : Gl} (H : GA g) {xs : List V} {r : V} (h : sCell xs r) : Con g 1 (.ref 202) xs r := by
  obtain ⟨ns, a, rfl, rfl, hl, h0, h1⟩ := h
  have H' : FnK g _ 202 _ _ _ := H.f21
  refine con2 H' ["script", "at"] [] ⟨[⟨"len", sLen⟩], [], []⟩ 16 (gok_c (f := ⟨"len", sLen⟩) ⟨by decide +kernel, by decide +kernel, .bi "len" H.nlen (by decide +kernel) (by decide) fun xs r h => b_len h⟩ gok0) (by decide +kernel) rfl rfl (fun ws fd h e1 e2 e3 => by obtain ⟨a, b, rfl⟩ := l2 h; cases fd; cases e1; cases e2; cases e3; rfl) ?_
  have sl : sLen [V.lst ns] (.int (ns.length : Nat)) := ⟨_, _, rfl, .inr (.inl ⟨ns, rfl, rfl⟩), rfl, by omega⟩
  refine Exists.intro _ (And.intro sl (And.intro (fun hz => ?_) (fun hz => ?_)))
  · have b1 : (613 : Int).natAbs < Big := big_i 10 (by decide) (by decide) (by decide)
    have b2 : a.natAbs < Big := big_i 10 (by omega) (by omega) (by decide)
    have b3 : (613 * a).natAbs < Big := big_i 20 (by omega) (by omega) (by decide)
    have b4 : (29 : Int).natAbs < Big := big_i 10 (by decide) (by decide) (by decide)
    exact And.intro (And.intro b1 b2) (And.intro (And.intro b3 b2) (And.intro (And.intro b4 b2) (congrArg (fun z => Fl.ret (.int z)) (if_pos (by omega)).symm)))
  · have hne : (ns.length : Int) ≠ 0 := hz
    have f0 := Int.fmod_nonneg_of_pos a (show (0 : Int) < ns.length by omega)
    have f1 := Int.fmod_lt_of_pos a (show (0 : Int) < ns.length by omega)
    refine Exists.intro _ (And.intro sl (And.intro hne (And.intro ⟨⟨f0, f1⟩, by omega⟩ (Exists.intro _ (And.intro sl (And.intro ⟨by omega, big_i 10 (by omega) (by omega) (by decide)⟩ ?_))))))
    exact congrArg (fun z => Fl.ret (.int z)) (if_neg (by omega)).symm

/-! powers -/
theorem wr_bd {w n : Int} (h1 : w ≤ 400) : -(2 ^ 400) < wr w n ∧ wr w n < 2 ^ 400 := by
  unfold wr
  have hp := Nat.pow_pos (n := w.toNat) (show 0 < 2 by decide)
  have h2 := Nat.pow_le_pow_right (n := 2) (by decide) (show w.toNat ≤ 400 by omega)
  have a := Int.bmod_lt (x := n) hp
  have b := Int.le_bmod (x := n) hp
  have e : (2 : Int) ^ 400 = ((2 ^ 400 : Nat) : Int) := (Int.natCast_pow 2 400).symm
  rw [e]
  have h3 : ((2 ^ w.toNat : Nat) : Int) ≤ ((2 ^ 400 : Nat) : Int) := Int.ofNat_le.mpr h2
  have h4 : (2 : Int) ≤ ((2 ^ 400 : Nat) : Int) := by decide +kernel
  omega
theorem wr_mulL (w x y : Int) : wr w (wr w x * y) = wr w (x * y) := Int.bmod_mul_bmod
theorem wr_mulR (w x y : Int) : wr w (x * wr w y) = wr w (x * y) := Int.mul_bmod_bmod
theorem wr_pow (w x y : Int) : ∀ k : Nat, wr w (x * (wr w y) ^ k) = wr w (x * y ^ k)
  | 0 => by rw [Int.pow_zero, Int.pow_zero]
  | k + 1 => by
    rw [Int.pow_succ, Int.pow_succ, ← Int.mul_assoc, ← wr_mulL, wr_pow w x y k, wr_mulL, wr_mulR, Int.mul_assoc]
theorem wr_wr (w x : Int) : wr w (wr w x) = wr w x := by have := wr_mulL w x 1; rwa [Int.mul_one, Int.mul_one] at this
noncomputable def pwv (a b w : Int) : Int := if b < 0 then (if a = 1 then 1 else if a = -1 then (if b.fmod 2 = 0 then 1 else -1) else 0) else wr w (a ^ b.toNat)
noncomputable def sPow (xs : List V) (r : V) : Prop := ∃ a b w, xs = [.int a, .int b, .int w] ∧ r = .int (pwv a b w) ∧ (0 ≤ b ∨ a ≠ 0) ∧ (-(2 ^ 400) < a ∧ a < 2 ^ 400) ∧ 1 ≤ w ∧ w ≤ 400
theorem big400 {n : Int} (h : -(2 ^ 400) < n ∧ n < 2 ^ 400) : n.natAbs < Big := big_i 400 h.1 h.2 (by decide)
theorem c_power {g : Gl} (H : GA g) {xs : List V} {r : V} (h : sPow xs r) : Con g 2 (.ref 111) xs r := by
  obtain ⟨a, b, w, rfl, rfl, hab, ha, h0, h1⟩ := h
  have H' : FnK g _ 111 _ _ _ := H.f7
  refine con2 H' ["a", "b", "width"] ["found", "base"] ⟨[⟨"wrap", sWrap⟩], [], []⟩ 20 (gok_c (f := ⟨"wrap", sWrap⟩) ⟨by decide +kernel, by decide +kernel, at_fn (show FnK g _ 97 _ _ _ from H.f5) fun xs r h => (c_wrap H h)⟩ gok0) (by decide +kernel) rfl rfl (fun ws fd h e1 e2 e3 => by obtain ⟨a, b, c, rfl⟩ := l3 h; cases fd; cases e1; cases e2; cases e3; rfl) ?_
  have hr : ∀ {x y : Int}, x = y → Fl.ret (.int x) = Fl.ret (.int y) := fun h => congrArg (fun z => Fl.ret (.int z)) h
  refine And.intro (fun hneg => And.intro (fun hz => absurd hz (hab.resolve_left (by omega))) (fun hz => ?_)) (fun hnn => ?_)
  · have e : pwv a b w = (if a = 1 then 1 else if a = -1 then (if b.fmod 2 = 0 then 1 else -1) else 0) := if_pos hneg
    rw [e]
    refine And.intro (fun q1 => ?_) (fun q1 => And.intro (fun q2 => ?_) (fun q2 => ?_))
    · exact And.intro (fun _ => hr (if_pos q1).symm) (fun q => absurd q1 q)
    · refine And.intro (fun q => absurd q q1) (fun _ => And.intro (by decide) (And.intro (fun q3 => hr ?_) (fun q3 => hr ?_)))
      · rw [if_neg q1, if_pos q2, if_pos q3]
      · rw [if_neg q1, if_pos q2, if_neg q3]
    · exact hr (by rw [if_neg q1, if_neg q2])
  · have e : pwv a b w = wr w (a ^ b.toNat) := if_neg hnn
    rw [e]
    refine Exists.intro _ (And.intro rfl (Exists.intro (fun ρ => ∃ f bs k : Int, ρ = ([("a", some (.int a)), ("b", some (.int k)), ("width", some (.int w)), ("found", some (.int f)), ("base", some (.int bs))] : Rho) ∧ 0 ≤ k ∧ (-(2 ^ 400) < f ∧ f < 2 ^ 400) ∧ (-(2 ^ 400) < bs ∧ bs < 2 ^ 400) ∧ wr w (f * bs ^ k.toNat) = wr w (a ^ b.toNat)) (Exists.intro (fun ρ => gI ρ "b") (And.intro ⟨1, a, b, rfl, by omega, by decide +kernel, ha, by rw [Int.one_mul]⟩ ?_))))
    rintro ρ' ⟨f, bs, k, rfl, hk, hf, hbs, e1⟩
    have hsq : ∀ x : Int, wr w (x * (wr w (bs * bs)) ^ (k / 2).toNat) = wr w (x * bs ^ (2 * (k / 2).toNat)) := fun x => by rw [wr_pow, Int.pow_mul, Int.pow_succ, Int.pow_succ, Int.pow_zero, Int.one_mul]
    refine And.intro (fun hpos => And.intro (by decide) (And.intro (fun hodd => ?_) (fun heven => ?_))) (fun hnp => ?_)
    · rw [Int.fmod_eq_emod_of_nonneg _ (by decide)] at hodd
      refine Exists.intro _ (And.intro (And.intro ⟨big400 hf, big400 hbs⟩ (Exists.intro _ (And.intro ⟨_, _, rfl, rfl, h0, h1⟩ rfl))) ?_)
      refine Exists.intro _ (And.intro (And.intro ⟨big400 hbs, big400 hbs⟩ (Exists.intro _ (And.intro ⟨_, _, rfl, rfl, h0, h1⟩ rfl))) ?_)
      refine Exists.intro _ (And.intro (And.intro ⟨by decide, big_i 3 (by decide) (by decide) (by decide)⟩ rfl) ⟨⟨_, _, _, rfl, by omega, wr_bd h1, wr_bd h1, ?_⟩, by show (k / 2).toNat < k.toNat; omega⟩)
      rw [hsq, wr_mulL, ← e1]
      have : k.toNat = 2 * (k / 2).toNat + 1 := by omega
      rw [this, Int.pow_succ, Int.mul_assoc, Int.mul_comm bs]
    · rw [Int.fmod_eq_emod_of_nonneg _ (by decide)] at heven
      refine Exists.intro _ (And.intro (And.intro ⟨big400 hbs, big400 hbs⟩ (Exists.intro _ (And.intro ⟨_, _, rfl, rfl, h0, h1⟩ rfl))) ?_)
      refine Exists.intro _ (And.intro (And.intro ⟨by decide, big_i 3 (by decide) (by decide) (by decide)⟩ rfl) ⟨⟨_, _, _, rfl, by omega, hf, wr_bd h1, ?_⟩, by show (k / 2).toNat < k.toNat; omega⟩)
      rw [hsq, ← e1]
      have : k.toNat = 2 * (k / 2).toNat := by omega
      rw [← this]
    · refine Exists.intro _ (And.intro ⟨_, _, rfl, rfl, h0, h1⟩ (hr ?_))
      have : k.toNat = 0 := by omega
      rw [this, Int.pow_zero, Int.mul_one] at e1
      exact e1

noncomputable abbrev oAdd : List Int := [97, 100, 100]
noncomputable abbrev oSub : List Int := [115, 117, 98]
noncomputable abbrev oMul : List Int := [109, 117, 108]
noncomputable abbrev oUnm : List Int := [117, 110, 109]
noncomputable abbrev oPow : List Int := [112, 111, 119]
noncomputable abbrev oDiv : List Int := [100, 105, 118]
noncomputable abbrev oMod : List Int := [109, 111, 100]
/-- the sum that an operation's name tells -/
noncomputable def arv (op : List Int) (a b w : Int) : Int := if op = oAdd then wr w (a + b) else if op = oSub then wr w (a - b) else if op = oMul then wr w (a * b) else if op = oUnm then wr w (-a) else if op = oPow then pwv a b w else if op = oDiv then wr w (a.tdiv b) else wr w (a.fmod b)
noncomputable def okA (op : List Int) (a b : Int) : Prop := op = oAdd ∨ op = oSub ∨ op = oMul ∨ op = oUnm ∨ (op = oPow ∧ (0 ≤ b ∨ a ≠ 0)) ∨ ((op = oDiv ∨ op = oMod) ∧ b ≠ 0)
noncomputable def sArith (xs : List V) (r : V) : Prop := ∃ op a b w, xs = [.bytes op, .int a, .int b, .lim w] ∧ r = .int (arv op a b w) ∧ okA op a b ∧ (-(2 ^ 400) < a ∧ a < 2 ^ 400) ∧ (-(2 ^ 400) < b ∧ b < 2 ^ 400) ∧ 1 ≤ w ∧ w ≤ 400
theorem c_arith {g : Gl} (H : GA g) {xs : List V} {r : V} (h : sArith xs r) : Con g 3 (.ref 118) xs r := by
  obtain ⟨op, a, b, w, rfl, rfl, hok, ha, hb, h0, h1⟩ := h
  have H' : FnK g _ 118 _ _ _ := H.f8
  refine con2 H' ["op", "a", "b", "limits"] ["width"] ⟨[⟨"wrap", sWrap⟩, ⟨"power", sPow⟩, ⟨"divide", sDiv⟩], [], []⟩ 20 (gok_c (f := ⟨"wrap", sWrap⟩) ⟨by decide +kernel, by decide +kernel, at_fn (show FnK g _ 97 _ _ _ from H.f5) fun xs r h => ((c_wrap H h).more (by decide))⟩ (gok_c (f := ⟨"power", sPow⟩) ⟨by decide +kernel, by decide +kernel, at_fn (show FnK g _ 111 _ _ _ from H.f7) fun xs r h => (c_power H h)⟩ (gok_c (f := ⟨"divide", sDiv⟩) ⟨by decide +kernel, by decide +kernel, at_fn (show FnK g _ 104 _ _ _ from H.f6) fun xs r h => ((c_divide H h).more (by decide))⟩ gok0))) (by decide +kernel) rfl rfl (fun ws fd h e1 e2 e3 => by obtain ⟨a, b, c, d, rfl⟩ := l4 h; cases fd; cases e1; cases e2; cases e3; rfl) ?_
  have hr : ∀ {x y : Int}, y = x → Fl.ret (.int x) = Fl.ret (.int y) := fun h => congrArg (fun z => Fl.ret (.int z)) h.symm
  have one : ∀ {n : Int}, arv op a b w = wr w n → ∃ r, sWrap [.int n, .int w] r ∧ Fl.ret r = Fl.ret (.int (arv op a b w)) := fun h => ⟨_, ⟨_, _, rfl, rfl, h0, h1⟩, hr h⟩
  refine Exists.intro _ (And.intro ⟨rfl, rfl⟩ (And.intro (fun (h : op = oAdd) => one (if_pos h)) (fun (n1 : ¬ op = oAdd) => And.intro (fun (h : op = oSub) => one ?_) (fun (n2 : ¬ op = oSub) => And.intro (fun (h : op = oMul) => And.intro ⟨big400 ha, big400 hb⟩ (one ?_)) (fun (n3 : ¬ op = oMul) => And.intro (fun (h : op = oUnm) => one ?_) (fun (n4 : ¬ op = oUnm) => And.intro (fun (h : op = oPow) => Exists.intro _ (And.intro ⟨_, _, _, rfl, rfl, ?_, ha, h0, h1⟩ (hr ?_))) (fun (n5 : ¬ op = oPow) => ?_)))))))
  · unfold arv; rw [if_neg n1, if_pos h]
  · unfold arv; rw [if_neg n1, if_neg n2, if_pos h]
  · unfold arv; rw [if_neg n1, if_neg n2, if_neg n3, if_pos h]
  · have h' : op = oPow := h
    rcases hok with q | q | q | q | q | q
    · exact absurd q n1
    · exact absurd q n2
    · exact absurd q n3
    · exact absurd q n4
    · exact q.2
    · rw [h'] at q; exact absurd q.1 (by decide)
  · unfold arv; rw [if_neg n1, if_neg n2, if_neg n3, if_neg n4, if_pos h]
  · have hdm : (op = oDiv ∨ op = oMod) ∧ b ≠ 0 := by
      rcases hok with q | q | q | q | q | q
      · exact absurd q n1
      · exact absurd q n2
      · exact absurd q n3
      · exact absurd q n4
      · exact absurd q.1 n5
      · exact q
    have e : arv op a b w = if op = oDiv then wr w (a.tdiv b) else wr w (a.fmod b) := by unfold arv; rw [if_neg n1, if_neg n2, if_neg n3, if_neg n4, if_neg n5]
    have nz := hdm.2
    have last : ((b = 0 → False) ∧ (b ≠ 0 → ((op = oDiv → ∃ r, sDiv [.int a, .int b] r ∧ ∃ r', sWrap [r, .int w] r' ∧ Fl.ret r' = Fl.ret (.int (arv op a b w))) ∧ (op ≠ oDiv → b ≠ 0 ∧ ∃ r', sWrap [.int (a.fmod b), .int w] r' ∧ Fl.ret r' = Fl.ret (.int (arv op a b w)))))) :=
      ⟨fun q => nz q, fun _ => ⟨fun q => ⟨_, ⟨a, b, rfl, rfl, nz, big400 hb⟩, one (by rw [e, if_pos q])⟩, fun q => ⟨nz, one (by rw [e, if_neg q])⟩⟩⟩
    refine And.intro (fun (n6 : ¬ op = oDiv) => And.intro (fun (n7 : ¬ op = oMod) => ?_) (fun n7 => ?_)) (fun n6 => ?_)
    · exact (hdm.1.elim (fun q => n6 q) (fun q => n7 q))
    · exact And.intro (fun q => (nz q).elim) last.2
    · exact And.intro (fun q => (nz q).elim) last.2

theorem rd_le (b : Int) : ∀ (l : List Int) (acc : Int), (rd b acc l).2 ≤ l.length
  | [], _ => Nat.le_refl _
  | o :: r, acc => by
    have := rd_le b r (acc * b + dg o)
    show (if dg o < 0 ∨ b ≤ dg o then (acc, 0) else ((rd b (acc * b + dg o) r).1, (rd b (acc * b + dg o) r).2 + 1)).2 ≤ r.length + 1
    split
    · exact Nat.zero_le _
    · exact Nat.succ_le_succ this
theorem lead_le : ∀ l : List Int, lead l ≤ l.length
  | [] => Nat.le_refl _
  | o :: r => by
    have := lead_le r
    show (if o ∈ blanks then lead r + 1 else 0) ≤ r.length + 1
    split
    · exact Nat.succ_le_succ this
    · exact Nat.zero_le _
/-- what stands behind the mark -/
noncomputable def tibF (l : List Int) (a : Nat) (b : Int) (bl : Bool) (w : Int) : V :=
  if (rd (if b = 0 then 10 else b) 0 (l.drop a)).2 = 0 ∨ a + (rd (if b = 0 then 10 else b) 0 (l.drop a)).2 + lead (l.drop (a + (rd (if b = 0 then 10 else b) 0 (l.drop a)).2)) ≠ l.length then .none
  else .int (wr w (if bl then -(rd (if b = 0 then 10 else b) 0 (l.drop a)).1 else (rd (if b = 0 then 10 else b) 0 (l.drop a)).1))
noncomputable def isMk (l : List Int) (a : Nat) (b : Int) : Prop := a + 2 < l.length ∧ l.getD a 0 = 48 ∧ (l.getD (a + 1) 0 = 120 ∨ l.getD (a + 1) 0 = 88) ∧ (b = 0 ∨ b = 16)
noncomputable instance (l : List Int) (a : Nat) (b : Int) : Decidable (isMk l a b) := by unfold isMk; infer_instance
noncomputable def tibM (l : List Int) (a : Nat) (b : Int) (bl : Bool) (w : Int) : V :=
  if isMk l a b ∧ (0 ≤ dg (l.getD (a + 2) 0) ∧ dg (l.getD (a + 2) 0) < 16) then tibF l (a + 2) 16 bl w else tibF l a b bl w
/-- what text_in_base tells -/
noncomputable def tib (l : List Int) (b w : Int) : V :=
  if lead l < l.length ∧ (l.getD (lead l) 0 = 43 ∨ l.getD (lead l) 0 = 45) then tibM l (lead l + 1) b (decide (l.getD (lead l) 0 = 45)) w else tibM l (lead l) b false w
noncomputable def sTib (xs : List V) (r : V) : Prop := ∃ l b w, xs = [.bytes l, .int b, .lim w] ∧ r = tib l b w ∧ l.length ≤ 100 ∧ (b = 0 ∨ (2 ≤ b ∧ b ≤ 36)) ∧ 1 ≤ w ∧ w ≤ 400
theorem ite_fine {p : Prop} [Decidable p] {a b : V} (ha : a.fine = true) (hb : b.fine = true) : (if p then a else b).fine = true := by split <;> assumption
theorem tibF_fine (l : List Int) (a : Nat) (b : Int) (bl : Bool) (w : Int) : (tibF l a b bl w).fine = true := ite_fine rfl rfl
theorem tib_fine (l : List Int) (b w : Int) : (tib l b w).fine = true := ite_fine (ite_fine (tibF_fine ..) (tibF_fine ..)) (ite_fine (tibF_fine ..) (tibF_fine ..))
noncomputable abbrev tT : Tb := ⟨[⟨"len", sLen⟩, ⟨"wrap", sWrap⟩, ⟨"digit_of", sDig⟩, ⟨"read_digits", sRead⟩, ⟨"skip_blanks", sSkip⟩], [], []⟩
noncomputable abbrev Pr (r : V) : Fl → Rho → Prop := fun fl _ => fl = .ret r
/-- found, end = .. and on -/
theorem tail4 {l : List Int} {a : Nat} {b w : Int} {bl : Bool} {mk : Option V} {r : V} (hl : l.length ≤ 100) (ha : a ≤ l.length) (hb : b = 0 ∨ (2 ≤ b ∧ b ≤ 36)) (h0 : 1 ≤ w) (h1 : w ≤ 400) (e : tibF l a b bl w = r) :
    wpx tT 16 ((fbd 13).drop 4) ([("text", some (.bytes l)), ("base", some (.int b)), ("limits", some (.lim w)), ("at", some (.int (a : Int))), ("is_below", some (.bool bl)), ("is_marked", mk), ("found", none), ("end", none)] : Rho) (Pr r) := by
  obtain ⟨B, hB⟩ : ∃ B, (if b = 0 then 10 else b) = B := ⟨_, rfl⟩
  have hB1 : 2 ≤ B ∧ B ≤ 36 := by rw [← hB]; split <;> omega
  unfold tibF at e
  rw [hB] at e
  have hq := rd_le B (l.drop a) 0
  rw [List.length_drop] at hq
  have key : ∃ r, sRead [.bytes l, .int (a : Int), .int B] r ∧ r = .pair (.int (rd B 0 (l.drop a)).1) (.int ((a : Int) + ((rd B 0 (l.drop a)).2 : Nat))) := ⟨_, ⟨l, a, B, rfl, rfl, by omega, by omega, hl, hB1.1, hB1.2⟩, rfl⟩
  refine Exists.intro (.int (rd B 0 (l.drop a)).1) (Exists.intro (.int ((a : Int) + ((rd B 0 (l.drop a)).2 : Nat))) (And.intro (And.intro (fun hz => ?_) (fun hz => ?_)) ?_))
  · have : B = 10 := by rw [← hB]; exact if_pos hz
    rw [this] at key; rw [this]; exact key
  · have : B = b := by rw [← hB]; exact if_neg hz
    rw [this] at key; rw [this]; exact key
  generalize rd B 0 (l.drop a) = q at *
  refine And.intro (fun hz => ?_) (fun hz => ?_)
  · rw [if_pos (.inl (by omega))] at e
    exact congrArg Fl.ret e
  · have e4 : ((a : Int) + (q.2 : Nat)).toNat = a + q.2 := by omega
    refine Exists.intro _ (And.intro ⟨l, (a : Int) + (q.2 : Nat), rfl, rfl, by omega, by omega, hl⟩ (Exists.intro _ (And.intro ⟨_, _, rfl, .inl ⟨l, rfl, rfl⟩, rfl, by omega⟩ (And.intro (fun hn => ?_) (fun hn => ?_)))))
    · rw [e4] at hn
      rw [if_pos (.inr (by omega))] at e
      exact congrArg Fl.ret e
    · rw [e4] at hn
      rw [if_neg (by omega)] at e
      rw [← e]
      have wrp : ∀ n : Int, ∃ r, sWrap [.int n, .int w] r ∧ Fl.ret r = Fl.ret (.int (wr w n)) := fun n => ⟨_, ⟨_, _, rfl, rfl, h0, h1⟩, rfl⟩
      cases bl
      · exact And.intro rfl (wrp q.1)
      · exact And.intro rfl (wrp (-q.1))
theorem tail2 {l : List Int} {a : Nat} {b w : Int} {bl : Bool} {r : V} (hl : l.length ≤ 100) (ha : a ≤ l.length) (hb : b = 0 ∨ (2 ≤ b ∧ b ≤ 36)) (h0 : 1 ≤ w) (h1 : w ≤ 400) (e : tibM l a b bl w = r) :
    wpx tT 18 ((fbd 13).drop 2) ([("text", some (.bytes l)), ("base", some (.int b)), ("limits", some (.lim w)), ("at", some (.int (a : Int))), ("is_below", some (.bool bl)), ("is_marked", none), ("found", none), ("end", none)] : Rho) (Pr r) := by
  have len : ∃ r, sLen [.bytes l] r ∧ r = .int (l.length : Nat) := ⟨_, ⟨_, _, rfl, .inl ⟨l, rfl, rfl⟩, rfl, by omega⟩, rfl⟩
  have not : ∀ {mk}, ¬ isMk l a b → wpx tT 16 ((fbd 13).drop 4) ([("text", some (.bytes l)), ("base", some (.int b)), ("limits", some (.lim w)), ("at", some (.int (a : Int))), ("is_below", some (.bool bl)), ("is_marked", mk), ("found", none), ("end", none)] : Rho) (Pr r) := fun h => tail4 hl ha hb h0 h1 (by unfold tibM at e; rw [if_neg (fun q => h q.1)] at e; exact e)
  refine Exists.intro (.bool (decide (isMk l a b))) (And.intro ?_ ?_)
  · refine Exists.intro _ (And.intro ⟨_, _, rfl, .inl ⟨l, rfl, rfl⟩, rfl, by omega⟩ (And.intro (fun hlt => ?_) (fun hge => ?_)))
    · refine And.intro ⟨⟨by omega, by omega⟩, by omega⟩ (fun b1 => And.intro (fun h48 => ?_) (fun h48 => ?_))
      · have e1 : ((a : Int) + 1).toNat = a + 1 := by omega
        refine And.intro ⟨⟨by omega, by omega⟩, by omega⟩ (fun b2 => And.intro b2 (And.intro (fun hx => ?_) (fun hx => ?_)))
        · refine And.intro (fun hm => ?_) (fun hm => ?_)
          · refine congrArg V.bool (decide_eq_true ⟨by omega, ?_, ?_, ?_⟩).symm
            · rw [tn0] at h48; exact h48
            · rw [e1] at hx; have hx' : l.getD (a + 1) 0 ∈ ([120, 88] : List Int) := hx; simpa using hx'
            · have hm' : b ∈ ([0, 16] : List Int) := hm; simpa using hm'
          · refine congrArg V.bool (decide_eq_false fun q => hm ?_).symm
            show b ∈ ([0, 16] : List Int)
            have := q.2.2.2
            simpa using this
        · refine congrArg V.bool (decide_eq_false fun q => hx ?_).symm
          rw [e1]
          show l.getD (a + 1) 0 ∈ ([120, 88] : List Int)
          have := q.2.2.1
          simpa using this
      · rw [tn0] at h48
        exact congrArg V.bool (decide_eq_false fun q => h48 q.2.1).symm
    · exact congrArg V.bool (decide_eq_false fun q => hge (by have := q.1; omega)).symm
  · by_cases hm : isMk l a b
    · rw [decide_eq_true hm]
      have hl2 := hm.1
      have e2 : ((a : Int) + 2).toNat = a + 2 := by omega
      refine And.intro ⟨⟨by omega, by omega⟩, by omega⟩ (fun b1 => Exists.intro _ (And.intro ⟨_, rfl, rfl⟩ ?_))
      rw [e2]
      have go : ¬ (0 ≤ dg (l.getD (a + 2) 0) ∧ dg (l.getD (a + 2) 0) < 16) → ∀ {mk}, wpx tT 16 ((fbd 13).drop 4) ([("text", some (.bytes l)), ("base", some (.int b)), ("limits", some (.lim w)), ("at", some (.int (a : Int))), ("is_below", some (.bool bl)), ("is_marked", mk), ("found", none), ("end", none)] : Rho) (Pr r) := fun h => tail4 hl ha hb h0 h1 (by unfold tibM at e; rw [if_neg (fun q => h q.2)] at e; exact e)
      refine And.intro (fun g0 => And.intro (fun g1 => ?_) (fun g1 => go (fun q => g1 q.2))) (fun g0 => go (fun q => g0 q.1))
      refine Exists.intro _ (And.intro rfl ?_)
      have := @tail4 l (a + 2) 16 w bl (some (.bool true)) r hl (by omega) (.inr ⟨by decide, by decide⟩) h0 h1 (by unfold tibM at e; rw [if_pos ⟨hm, g0, g1⟩] at e; exact e)
      exact this
    · rw [decide_eq_false hm]
      exact not hm
theorem c_tib {g : Gl} (H : GA g) {xs : List V} {r : V} (h : sTib xs r) : Con g 3 (.ref 153) xs r := by
  obtain ⟨l, b, w, rfl, rfl, hl, hb, h0, h1⟩ := h
  have H' : FnK g _ 153 _ _ _ := H.f13
  refine con2 H' ["text", "base", "limits"] ["at", "is_below", "is_marked", "found", "end"] tT 20 (gok_c (f := ⟨"len", sLen⟩) ⟨by decide +kernel, by decide +kernel, .bi "len" H.nlen (by decide +kernel) (by decide) fun xs r h => b_len h⟩ (gok_c (f := ⟨"wrap", sWrap⟩) ⟨by decide +kernel, by decide +kernel, at_fn (show FnK g _ 97 _ _ _ from H.f5) fun xs r h => ((c_wrap H h).more (by decide))⟩ (gok_c (f := ⟨"digit_of", sDig⟩) ⟨by decide +kernel, by decide +kernel, at_fn (show FnK g _ 132 _ _ _ from H.f10) fun xs r h => ((c_digit H h).more (by decide))⟩ (gok_c (f := ⟨"read_digits", sRead⟩) ⟨by decide +kernel, by decide +kernel, at_fn (show FnK g _ 139 _ _ _ from H.f11) fun xs r h => (c_read H h)⟩ (gok_c (f := ⟨"skip_blanks", sSkip⟩) ⟨by decide +kernel, by decide +kernel, at_fn (show FnK g _ 146 _ _ _ from H.f12) fun xs r h => (c_skip H h)⟩ gok0))))) (by decide +kernel) rfl (tib_fine l b w) (fun ws fd h e1 e2 e3 => by obtain ⟨a, b, c, rfl⟩ := l3 h; cases fd; cases e1; cases e2; cases e3; rfl) ?_
  have hle := lead_le l
  refine Exists.intro _ (And.intro (Exists.intro _ (And.intro ⟨l, 0, rfl, rfl, by omega, by omega, hl⟩ rfl)) ?_)
  refine Exists.intro _ (And.intro ⟨_, _, rfl, .inl ⟨l, rfl, rfl⟩, rfl, by omega⟩ ?_)
  have e0 : ((0 : Int) + (lead (l.drop (0 : Int).toNat) : Nat)) = (lead l : Nat) := by show (0 : Int) + (lead l : Nat) = _; omega
  rw [e0]
  have no : ¬ (lead l < l.length ∧ (l.getD (lead l) 0 = 43 ∨ l.getD (lead l) 0 = 45)) → wpx tT 18 ((fbd 13).drop 2) ([("text", some (.bytes l)), ("base", some (.int b)), ("limits", some (.lim w)), ("at", some (.int (lead l : Int))), ("is_below", some (.bool false)), ("is_marked", none), ("found", none), ("end", none)] : Rho) (Pr (tib l b w)) := fun h =>
    tail2 hl hle hb h0 h1 (if_neg h).symm
  refine And.intro (fun hlt => And.intro ⟨⟨by omega, by omega⟩, by omega⟩ (fun b1 => And.intro b1 (And.intro (fun hs => ?_) (fun hs => ?_)))) (fun hge => ?_)
  · rw [tn0] at hs
    have hs' : l.getD (lead l) 0 ∈ ([43, 45] : List Int) := hs
    refine Exists.intro (.bool (decide (l.getD (lead l) 0 = 45))) (And.intro (And.intro ⟨⟨by omega, by omega⟩, by omega⟩ (fun b1 => And.intro (fun q => ?_) (fun q => ?_))) (Exists.intro _ (And.intro rfl ?_)))
    · rw [tn0] at q; exact congrArg V.bool (decide_eq_true q).symm
    · rw [tn0] at q; exact congrArg V.bool (decide_eq_false q).symm
    · exact @tail2 l (lead l + 1) b w (decide (l.getD (lead l) 0 = 45)) _ hl (by omega) hb h0 h1 (if_pos ⟨by omega, by simpa using hs'⟩).symm
  · rw [tn0] at hs
    refine no fun q => hs ?_
    show l.getD (lead l) 0 ∈ ([43, 45] : List Int)
    simpa using q.2
  · exact no fun q => hge (by have := q.1; omega)

noncomputable abbrev blanksL : List Int := [9, 10, 11, 12, 13, 32]
noncomputable abbrev signsL : List Int := [43, 45]
noncomputable def dw (o : Int) : Int := if 48 ≤ o ∧ o ≤ 57 then o - 48 else if 65 ≤ o ∧ o ≤ 90 then o - 55 else if 97 ≤ o ∧ o ≤ 122 then o - 87 else 99
noncomputable def srK (o : Int) : Str := if o ∈ blanksL then "blank" else if o ∈ signsL then "sign" else "digit"
noncomputable def srW (o : Int) : Int := if o ∈ blanksL then 99 else if o ∈ signsL then 99 else dw o
noncomputable def sSort (xs : List V) (r : V) : Prop := ∃ o, xs = [.int o] ∧ r = .pair (.str (srK o)) (.int (srW o))
theorem c_sort {g : Gl} (H : GA g) {xs : List V} {r : V} (h : sSort xs r) : Con g 1 (.ref 233) xs r := by
  obtain ⟨o, rfl, rfl⟩ := h
  have H' : FnK g _ 233 _ _ _ := H.f26
  refine con2 H' ["octet"] ["low"] (tb []) 20 gok0 (by decide +kernel) rfl rfl (fun ws fd h e1 e2 e3 => by obtain ⟨a, rfl⟩ := l1 h; cases fd; cases e1; cases e2; cases e3; rfl) ?_
  have e : ∀ {k : Str} {z : Int}, srK o = k → srW o = z → Fl.ret (.pair (.str k) (.int z)) = Fl.ret (.pair (.str (srK o)) (.int (srW o))) := fun h1 h2 => by rw [h1, h2]
  refine And.intro (fun (hb : o ∈ blanksL) => e (if_pos hb) (if_pos hb)) (fun (nb : ¬ o ∈ blanksL) => And.intro (fun (hs : o ∈ signsL) => ?_) (fun (ns : ¬ o ∈ signsL) => ?_))
  · exact e (by unfold srK; rw [if_neg nb, if_pos hs]) (by unfold srW; rw [if_neg nb, if_pos hs])
  · have ek : srK o = "digit" := by unfold srK; rw [if_neg nb, if_neg ns]
    have ew : srW o = dw o := by unfold srW; rw [if_neg nb, if_neg ns]
    rw [ek, ew]
    have q : ∀ {z : Int}, dw o = z → Fl.ret (.pair (.str "digit") (.int z)) = Fl.ret (.pair (.str "digit") (.int (dw o))) := fun h => by rw [h]
    refine And.intro (fun h1 => And.intro (fun h2 => q (if_pos ⟨h1, h2⟩)) (fun h2 => ?_)) (fun h1 => ?_)
    all_goals
      have n1 : ¬ (48 ≤ o ∧ o ≤ 57) := by omega
      refine Exists.intro (.int (if 65 ≤ o ∧ o ≤ 90 then o + 32 else o)) (And.intro (And.intro (fun h3 => And.intro (fun h4 => congrArg V.int (if_pos ⟨h3, h4⟩).symm) (fun h4 => congrArg V.int (if_neg (fun q => h4 q.2)).symm)) (fun h3 => congrArg V.int (if_neg (fun q => h3 q.1)).symm)) ?_)
      refine And.intro (fun h5 => And.intro (fun h6 => q ?_) (fun h6 => q ?_)) (fun h5 => q ?_) <;> unfold dw <;> rw [if_neg n1] <;> (repeat' split) <;> split at * <;> first | omega | rfl

theorem mem88 {x : Int} : x ∈ ([88, 120] : List Int) ↔ (x = 120 ∨ x = 88) := by
  simp only [List.mem_cons, List.mem_nil_iff, or_false]
  exact or_comm
/-- a mark stands at a, with a digit of sixteen behind it -/
noncomputable def mkd (l : List Int) (a : Nat) (b : Int) : Prop := isMk l a b ∧ (srK (l.getD (a + 2) 0) = "digit" ∧ srW (l.getD (a + 2) 0) < 16)
noncomputable instance (l : List Int) (a : Nat) (b : Int) : Decidable (mkd l a b) := by unfold mkd; infer_instance
theorem piece_len (l : List Int) (a : Nat) : ((l.drop a).take 3).length = min 3 (l.length - a) := by rw [List.length_take, List.length_drop]
theorem piece_at (l : List Int) (a i : Nat) (h : i < 3) : ((l.drop a).take 3).getD i 0 = l.getD (a + i) 0 := by
  rw [List.getD_eq_getElem?_getD, List.getD_eq_getElem?_getD, List.getElem?_take_of_lt h, List.getElem?_drop]
noncomputable def sMark (xs : List V) (r : V) : Prop := ∃ l a b, xs = [.bytes l, .int a, .int b] ∧ r = .bool (decide (mkd l a.toNat b)) ∧ 0 ≤ a ∧ l.length ≤ 100
theorem c_mark {g : Gl} (H : GA g) {xs : List V} {r : V} (h : sMark xs r) : Con g 2 (.ref 240) xs r := by
  obtain ⟨l, a, b, rfl, rfl, h0, hl⟩ := h
  obtain ⟨a, rfl⟩ : ∃ k : Nat, a = k := ⟨a.toNat, by omega⟩
  have H' : FnK g _ 240 _ _ _ := H.f27
  refine con2 H' ["text", "at", "base"] ["piece"] ⟨[⟨"len", sLen⟩, ⟨"_law_sort", sSort⟩], [], []⟩ 20 (gok_c (f := ⟨"len", sLen⟩) ⟨by decide +kernel, by decide +kernel, .bi "len" H.nlen (by decide +kernel) (by decide) fun xs r h => b_len h⟩ (gok_c (f := ⟨"_law_sort", sSort⟩) ⟨by decide +kernel, by decide +kernel, at_fn (show FnK g _ 233 _ _ _ from H.f26) fun xs r h => (c_sort H h)⟩ gok0)) (by decide +kernel) rfl rfl (fun ws fd h e1 e2 e3 => by obtain ⟨a, b, c, rfl⟩ := l3 h; cases fd; cases e1; cases e2; cases e3; rfl) ?_
  rw [tn0]
  have e3 : ((a : Int) + 3 - (a : Int)).toNat = 3 := by omega
  have p0 := piece_at l a 0 (by decide)
  have p1 := piece_at l a 1 (by decide)
  have p2 := piece_at l a 2 (by decide)
  have pl := piece_len l a
  refine Exists.intro (.bytes ((l.drop a).take 3)) (And.intro (And.intro ⟨⟨by omega, by omega⟩, by omega⟩ (by show V.bytes ((l.drop (a : Int).toNat).take ((a : Int) + 3 - (a : Int)).toNat) = _; rw [e3, tn0])) ?_)
  generalize (l.drop a).take 3 = p at *
  have f : ¬ mkd l a b → Fl.ret (.bool false) = Fl.ret (.bool (decide (mkd l a b))) := fun h => by rw [decide_eq_false h]
  have t : mkd l a b → Fl.ret (.bool true) = Fl.ret (.bool (decide (mkd l a b))) := fun h => by rw [decide_eq_true h]
  have z0 : (0 : Int).toNat = 0 := rfl
  have z1 : (1 : Int).toNat = 1 := rfl
  have z2 : (2 : Int).toNat = 2 := rfl
  refine And.intro (fun (hb : ¬ b ∈ ([0, 16] : List Int)) => f fun q => hb (by have := q.1.2.2.2; simpa using this)) (fun (hb : b ∈ ([0, 16] : List Int)) => ?_)
  refine Exists.intro _ (And.intro ⟨_, _, rfl, .inl ⟨p, rfl, rfl⟩, rfl, by omega⟩ (And.intro (fun h3 => f fun q => by have := q.1.1; omega) (fun h3 => ?_)))
  refine And.intro ⟨⟨by omega, by omega⟩, by omega⟩ (fun b0 => And.intro (fun h48 => f fun q => h48 (by rw [z0, p0]; exact q.1.2.1)) (fun h48 => ?_))
  refine And.intro ⟨⟨by omega, by omega⟩, by omega⟩ (fun b1 => And.intro (fun (hx : ¬ p.getD (1 : Int).toNat 0 ∈ ([88, 120] : List Int)) => f fun q => hx (by rw [z1, p1]; exact mem88.mpr q.1.2.2.1)) (fun (hx : p.getD (1 : Int).toNat 0 ∈ ([88, 120] : List Int)) => ?_))
  rw [z0, p0] at h48
  rw [z1, p1] at hx
  have hmk : isMk l a b := ⟨by omega, h48, mem88.mp hx, by simpa using hb⟩
  refine And.intro ⟨⟨by omega, by omega⟩, by omega⟩ (fun b2 => Exists.intro _ (And.intro ⟨_, rfl, rfl⟩ (And.intro (fun hk => ?_) (fun hk => f fun q => hk (by rw [z2, p2]; exact q.2.1)))))
  rw [z2, p2] at hk
  refine And.intro ⟨⟨by omega, by omega⟩, by omega⟩ (fun b3 => Exists.intro _ (And.intro ⟨_, rfl, rfl⟩ (And.intro (fun hw => ?_) (fun hw => f fun q => hw (by rw [z2, p2]; exact q.2.2)))))
  rw [z2, p2] at hw
  exact t ⟨hmk, hk, hw⟩

/-- the reader's states -/
inductive Sta where
  | ahead | signed | inner | behind
noncomputable def nm (s : Sta) : Str := Sta.casesOn s "ahead" "signed" "inner" "behind"
noncomputable def isS (s t : Sta) : Bool := Sta.casesOn s (Sta.casesOn t true false false false) (Sta.casesOn t false true false false) (Sta.casesOn t false false true false) (Sta.casesOn t false false false true)
theorem isS_iff {s t : Sta} : isS s t = true ↔ s = t := by cases s <;> cases t <;> first | exact ⟨fun _ => rfl, fun _ => rfl⟩ | exact ⟨fun h => Bool.noConfusion h, fun h => nomatch h⟩
theorem nm_iff {s t : Sta} : nm s = nm t ↔ isS s t = true := by cases s <;> cases t <;> first | exact ⟨fun _ => rfl, fun _ => rfl⟩ | exact ⟨fun h => absurd h (by decide), fun h => Bool.noConfusion h⟩
structure Rs where
  st : Sta
  f : Option Int
  sg : Int
  a : Nat
  wd : Int
/-- one octet's step of the law's reader -/
noncomputable def stp (l : List Int) (b : Int) (s : Rs) : Option Rs :=
  if isS s.st .ahead = true ∧ srK (l.getD s.a 0) = "sign" then some ⟨.signed, s.f, if l.getD s.a 0 = 45 then -1 else 1, s.a + 1, s.wd⟩
  else if (isS s.st .ahead = true ∨ isS s.st .signed = true) ∧ mkd l s.a b then some ⟨.inner, s.f, s.sg, s.a + 2, 16⟩
  else if ¬ isS s.st .behind = true ∧ srK (l.getD s.a 0) = "digit" ∧ srW (l.getD s.a 0) < s.wd then some ⟨.inner, some (s.f.getD 0 * s.wd + srW (l.getD s.a 0)), s.sg, s.a + 1, s.wd⟩
  else if srK (l.getD s.a 0) = "blank" ∧ isS s.st .inner = true ∧ s.f ≠ none then some ⟨.behind, s.f, s.sg, s.a + 1, s.wd⟩
  else if srK (l.getD s.a 0) ≠ "blank" ∨ isS s.st .signed = true ∨ isS s.st .inner = true then none
  else some ⟨s.st, s.f, s.sg, s.a + 1, s.wd⟩
noncomputable def lfin (w : Int) (s : Rs) : V := match s.f with
  | none => .none
  | some x => .int (wr w (s.sg * x))
noncomputable def lrd (l : List Int) (b w : Int) : Nat → Rs → V
  | 0, s => lfin w s
  | k + 1, s => if s.a < l.length then (match stp l b s with | none => .none | some s' => lrd l b w k s') else lfin w s
noncomputable def sLread (xs : List V) (r : V) : Prop := ∃ l b w, xs = [.bytes l, .int b, .int w] ∧ r = lrd l b w l.length ⟨.ahead, none, 1, 0, if b = 0 then 10 else b⟩ ∧ l.length ≤ 100 ∧ (b = 0 ∨ (2 ≤ b ∧ b ≤ 36)) ∧ 1 ≤ w ∧ w ≤ 400
theorem lfin_fine (w : Int) (s : Rs) : (lfin w s).fine = true := by unfold lfin; cases s.f <;> rfl
theorem lrd_fine (l : List Int) (b w : Int) : ∀ (k : Nat) (s : Rs), (lrd l b w k s).fine = true
  | 0, s => lfin_fine w s
  | k + 1, s => by
    unfold lrd
    split
    · split
      · rfl
      · exact lrd_fine l b w k _
    · exact lfin_fine w s
noncomputable def fv (f : Option Int) : V := match f with
  | none => .none
  | some x => .int x
/-- what holds between the turns -/
structure RsOk (l : List Int) (s : Rs) : Prop where
  a : s.a ≤ l.length
  sg : s.sg = 1 ∨ s.sg = -1
  w0 : 2 ≤ s.wd
  w1 : s.wd ≤ 36
  f : ∀ x, s.f = some x → 0 ≤ x ∧ x < 36 ^ s.a
theorem srW_nn (o : Int) : 0 ≤ srW o := by unfold srW dw; repeat' split <;> omega
theorem stp_ok {l : List Int} {b : Int} {s s' : Rs} (h : RsOk l s) (hl : s.a < l.length) (e : stp l b s = some s') : RsOk l s' ∧ s.a < s'.a := by
  obtain ⟨st, f, sg, a, wd⟩ := s
  have hff := h.f
  dsimp only at hff
  have hk : ∀ n, (0 : Int) < 36 ^ n := kpow
  have up : ∀ x, f = some x → 0 ≤ x ∧ x < 36 ^ (a + 1) := fun x q => ⟨(hff x q).1, Int.lt_of_lt_of_le (hff x q).2 (by have := hk a; rw [Int.pow_succ 36 a]; omega)⟩
  have up2 : ∀ x, f = some x → 0 ≤ x ∧ x < 36 ^ (a + 2) := fun x q => ⟨(hff x q).1, Int.lt_of_lt_of_le (up x q).2 (by have := hk (a + 1); rw [Int.pow_succ 36 (a + 1)]; omega)⟩
  have h0 := h.w0
  have h1 := h.w1
  dsimp only at hl h0 h1
  unfold stp at e
  split at e
  · cases e; exact ⟨⟨hl, by dsimp only; split <;> simp, h0, h1, up⟩, Nat.lt_succ_self _⟩
  split at e
  · rename_i q; cases e; exact ⟨⟨Nat.le_of_lt q.2.1.1, h.sg, (by decide : (2 : Int) ≤ 16), (by decide : (16 : Int) ≤ 36), up2⟩, Nat.lt_succ_of_lt (Nat.lt_succ_self _)⟩
  split at e
  · rename_i q
    cases e
    refine ⟨⟨hl, h.sg, h0, h1, fun x ex => ?_⟩, Nat.lt_succ_self _⟩
    dsimp only at ex
    cases ex
    have hd := srW_nn (l.getD a 0)
    have hq := q.2.2
    dsimp only at hq
    have hf : 0 ≤ f.getD 0 ∧ f.getD 0 < 36 ^ a := by
      cases f with
      | none => exact ⟨Int.le_refl _, hk a⟩
      | some y => exact h.f y rfl
    have p1 : f.getD 0 * wd ≤ f.getD 0 * 36 := Int.mul_le_mul_of_nonneg_left h1 hf.1
    have p2 : 0 ≤ f.getD 0 * wd := Int.mul_nonneg hf.1 (by omega)
    refine ⟨by omega, ?_⟩
    show _ < (36 : Int) ^ (a + 1)
    rw [Int.pow_succ]
    omega
  split at e
  · cases e; exact ⟨⟨hl, h.sg, h0, h1, up⟩, Nat.lt_succ_self _⟩
  split at e
  · cases e
  · cases e; exact ⟨⟨hl, h.sg, h0, h1, up⟩, Nat.lt_succ_self _⟩
theorem fbig {l : List Int} {s : Rs} (hl : l.length ≤ 100) (h : RsOk l s) : (s.f.getD 0).natAbs < Big := by
  have hb : 0 ≤ s.f.getD 0 ∧ s.f.getD 0 < 36 ^ s.a := by
    cases e : s.f with
    | none => exact ⟨Int.le_refl _, kpow _⟩
    | some y => exact h.f y e
  exact big_i 600 (by omega) (Int.lt_of_lt_of_le hb.2 (Int.le_trans (pow36 (k := s.a) (Nat.le_trans h.a hl)) (by decide +kernel))) (by decide)
theorem stS {s : Rs} {t : Sta} : nm s.st = nm t ↔ isS s.st t = true := nm_iff
theorem memS2 {s a b : Sta} : nm s ∈ [nm a, nm b] ↔ (isS s a = true ∨ isS s b = true) := by
  rw [List.mem_cons, List.mem_singleton, nm_iff, nm_iff]
theorem and2 {p q X Y : Prop} (h1 : p ∧ q → X) (h2 : ¬ (p ∧ q) → Y) : (p → ((q → X) ∧ (¬ q → Y))) ∧ (¬ p → Y) := ⟨fun a => ⟨fun b => h1 ⟨a, b⟩, fun b => h2 fun q => b q.2⟩, fun a => h2 fun q => a q.1⟩
theorem and2c {p q : Prop} [Decidable q] {S : V → Prop} {P : Bool → Prop} (hs : S (.bool (decide q))) (h1 : p ∧ q → P true) (h2 : ¬ (p ∧ q) → P false) : (p → ∃ r, S r ∧ boP P r) ∧ (¬ p → P false) :=
  ⟨fun a => ⟨_, hs, (Decidable.em q).elim (fun b => by show P (decide q); rw [decide_eq_true b]; exact h1 ⟨a, b⟩) fun b => by show P (decide q); rw [decide_eq_false b]; exact h2 fun q => b q.2⟩, fun a => h2 fun q => a q.1⟩
theorem and3n {p q r X Y : Prop} (h1 : ¬ p ∧ q ∧ r → X) (h2 : ¬ (¬ p ∧ q ∧ r) → Y) : (¬ p → ((q → ((r → X) ∧ (¬ r → Y))) ∧ (¬ q → Y))) ∧ (p → Y) := ⟨fun a => ⟨fun b => ⟨fun c => h1 ⟨a, b, c⟩, fun c => h2 fun q => c q.2.2⟩, fun b => h2 fun q => b q.2.1⟩, fun a => h2 fun q => q.1 a⟩
theorem cmpF {f : Option Int} {P : Bool → Prop} (h1 : f ≠ none → P true) (h2 : f = none → P false) : cmpP .IsNot (fv f) .none P := by
  cases f with
  | none => exact h2 rfl
  | some x => exact h1 (fun e => nomatch e)
theorem cmpE {f : Option Int} {P : Bool → Prop} (h1 : f = none → P true) (h2 : f ≠ none → P false) : cmpP .Is (fv f) .none P := by
  cases f with
  | none => exact h1 rfl
  | some x => exact h2 (fun e => nomatch e)
theorem and3f {p q : Prop} {f : Option Int} {P : Bool → Prop} (h1 : p ∧ q ∧ f ≠ none → P true) (h2 : ¬ (p ∧ q ∧ f ≠ none) → P false) : (p → ((q → cmpP .IsNot (fv f) .none P) ∧ (¬ q → P false))) ∧ (¬ p → P false) :=
  ⟨fun a => ⟨fun b => cmpF (fun c => h1 ⟨a, b, c⟩) fun c => h2 fun q => q.2.2 c, fun b => h2 fun q => b q.2.1⟩, fun a => h2 fun q => a q.1⟩
theorem or2n {p q X Y : Prop} (h1 : ¬ p ∨ q → X) (h2 : ¬ (¬ p ∨ q) → Y) : (¬ p → X) ∧ (p → ((q → X) ∧ (¬ q → Y))) := ⟨fun a => h1 (.inl a), fun a => ⟨fun b => h1 (.inr b), fun b => h2 fun q => q.elim (fun c => c a) b⟩⟩
theorem c_lread {g : Gl} (H : GA g) {xs : List V} {r : V} (h : sLread xs r) : Con g 3 (.ref 247) xs r := by
  obtain ⟨l, b, w, rfl, hr, hl, hb, h0, h1⟩ := h
  have H' : FnK g _ 247 _ _ _ := H.f28
  refine con2 H' ["text", "base", "width"] ["state", "found", "sign", "at", "wide", "kind", "worth"] ⟨[⟨"len", sLen⟩, ⟨"_law_sort", sSort⟩, ⟨"_law_cut", sWrap⟩, ⟨"_law_marked", sMark⟩], [], []⟩ 20 (gok_c (f := ⟨"len", sLen⟩) ⟨by decide +kernel, by decide +kernel, .bi "len" H.nlen (by decide +kernel) (by decide) fun xs r h => b_len h⟩ (gok_c (f := ⟨"_law_sort", sSort⟩) ⟨by decide +kernel, by decide +kernel, at_fn (show FnK g _ 233 _ _ _ from H.f26) fun xs r h => ((c_sort H h).more (by decide))⟩ (gok_c (f := ⟨"_law_cut", sWrap⟩) ⟨by decide +kernel, by decide +kernel, at_fn (show FnK g _ 209 _ _ _ from H.f22) fun xs r h => ((c_cut H h).more (by decide))⟩ (gok_c (f := ⟨"_law_marked", sMark⟩) ⟨by decide +kernel, by decide +kernel, at_fn (show FnK g _ 240 _ _ _ from H.f27) fun xs r h => (c_mark H h)⟩ gok0)))) (by decide +kernel) rfl (by rw [hr]; exact lrd_fine ..) (fun ws fd h e1 e2 e3 => by obtain ⟨a, b, c, rfl⟩ := l3 h; cases fd; cases e1; cases e2; cases e3; rfl) ?_
  refine Exists.intro [.str (nm .ahead), .none, .int 1, .int 0, .int (if b = 0 then 10 else b)] (And.intro (And.intro (fun hz => ?_) (fun hz => ?_)) ?_)
  · show _ = _; rw [if_pos hz]; rfl
  · show _ = _; rw [if_neg hz]; rfl
  refine Exists.intro (fun ρ => ∃ (k : Nat) (s : Rs) (kd wt : Option V), ρ = ([("text", some (.bytes l)), ("base", some (.int b)), ("width", some (.int w)), ("state", some (.str (nm s.st))), ("found", some (fv s.f)), ("sign", some (.int s.sg)), ("at", some (.int (s.a : Int))), ("wide", some (.int s.wd)), ("kind", kd), ("worth", wt)] : Rho) ∧ RsOk l s ∧ l.length ≤ s.a + k ∧ lrd l b w k s = r) (Exists.intro (fun ρ => l.length - gI ρ "at") (And.intro ⟨l.length, ⟨.ahead, none, 1, 0, if b = 0 then 10 else b⟩, none, none, rfl, ⟨Nat.zero_le _, .inl rfl, by dsimp only; split <;> omega, by dsimp only; split <;> omega, fun x e => nomatch e⟩, Nat.le_add_left _ _, hr.symm⟩ ?_))
  clear hr
  rintro ρ' ⟨k, s, kd, wt, rfl, ok, hk, e⟩
  refine Exists.intro _ (And.intro ⟨_, _, rfl, .inl ⟨l, rfl, rfl⟩, rfl, by omega⟩ (And.intro (fun hlt => ?_) (fun hge => ?_)))
  · have hk' : s.a < l.length := by omega
    cases k with
    | zero => omega
    | succ k =>
    unfold lrd at e
    rw [if_pos hk'] at e
    refine Exists.intro (.str (srK (l.getD s.a 0))) (Exists.intro (.int (srW (l.getD s.a 0))) (And.intro (And.intro ⟨⟨by omega, by omega⟩, by omega⟩ (fun hb => Exists.intro _ (And.intro ⟨_, rfl, rfl⟩ (by rw [tn0])))) ?_))
    have nx : ∀ {s' : Rs} {a' : Nat} {ρ'' : Rho}, stp l b s = some s' → s'.a = a' + 1 → ρ'' = ([("text", some (.bytes l)), ("base", some (.int b)), ("width", some (.int w)), ("state", some (.str (nm s'.st))), ("found", some (fv s'.f)), ("sign", some (.int s'.sg)), ("at", some (.int (a' : Int))), ("wide", some (.int s'.wd)), ("kind", some (.str (srK (l.getD s.a 0)))), ("worth", some (.int (srW (l.getD s.a 0))))] : Rho) →
        ∃ v, (V.int ((a' : Int) + 1)) = v ∧ ((∃ (k : Nat) (s : Rs) (kd wt : Option V), put ρ'' "at" v = ([("text", some (.bytes l)), ("base", some (.int b)), ("width", some (.int w)), ("state", some (.str (nm s.st))), ("found", some (fv s.f)), ("sign", some (.int s.sg)), ("at", some (.int (s.a : Int))), ("wide", some (.int s.wd)), ("kind", kd), ("worth", wt)] : Rho) ∧ RsOk l s ∧ l.length ≤ s.a + k ∧ lrd l b w k s = r) ∧ l.length - gI (put ρ'' "at" v) "at" < l.length - (s.a : Int).toNat) := by
      intro s' a' ρ'' e1 e2 e3
      obtain ⟨q1, q2⟩ := stp_ok ok hk' e1
      rw [e1] at e
      subst e3
      refine ⟨_, rfl, ⟨k, s', some (.str (srK (l.getD s.a 0))), some (.int (srW (l.getD s.a 0))), ?_, q1, by omega, e⟩, ?_⟩
      · rw [e2]; rfl
      · show l.length - ((a' : Int) + 1).toNat < _
        have := q1.a
        omega
    have no : stp l b s = none → Fl.ret V.none = Fl.ret r := fun q => by rw [q] at e; rw [← e]
    have fb := fbig hl ok
    have w0 := ok.w0
    have w1 := ok.w1
    clear e
    refine and2 (fun (q1 : nm s.st = nm .ahead ∧ srK (l.getD s.a 0) = "sign") => ?_) (fun n1 => ?_)
    · refine Exists.intro [.int (if l.getD s.a 0 = 45 then -1 else 1), .str (nm .signed)] (And.intro (And.intro ⟨⟨by omega, by omega⟩, by omega⟩ (fun hb => And.intro (fun q => ?_) (fun q => ?_))) ?_)
      · rw [tn0] at q; show _ = _; rw [if_pos q]; rfl
      · rw [tn0] at q; show _ = _; rw [if_neg q]; rfl
      · exact nx (s' := ⟨.signed, s.f, if l.getD s.a 0 = 45 then -1 else 1, s.a + 1, s.wd⟩) (if_pos ⟨nm_iff.mp q1.1, q1.2⟩) rfl rfl
    replace n1 : ¬ (isS s.st .ahead = true ∧ srK (l.getD s.a 0) = "sign") := fun q => n1 ⟨nm_iff.mpr q.1, q.2⟩
    unfold stp at nx no
    rw [if_neg n1] at nx no
    refine and2c (p := nm s.st ∈ [nm .ahead, nm .signed]) (q := mkd l s.a b) ⟨l, s.a, b, rfl, rfl, by omega, hl⟩ (fun q => ?_) (fun n2 => ?_)
    · exact Exists.intro _ (And.intro rfl (nx (s' := ⟨.inner, s.f, s.sg, s.a + 2, 16⟩) (a' := s.a + 1) (if_pos ⟨memS2.mp q.1, q.2⟩) rfl rfl))
    rw [if_neg (fun q => n2 ⟨memS2.mpr q.1, q.2⟩)] at nx no
    refine and3n (fun (q : ¬ nm s.st = nm .behind ∧ srK (l.getD s.a 0) = "digit" ∧ srW (l.getD s.a 0) < s.wd) => ?_) (fun n3 => ?_)
    · refine Exists.intro [.int (s.f.getD 0 * s.wd + srW (l.getD s.a 0)), .str (nm .inner)] (And.intro (cmpE (fun c => ?_) (fun c => ?_)) ?_)
      · rw [c] at fb ⊢
        exact And.intro ⟨fb, big_i 10 (by omega) (by omega) (by decide)⟩ rfl
      · obtain ⟨x, hx⟩ := Option.ne_none_iff_exists'.mp c
        rw [hx] at fb ⊢
        exact And.intro ⟨fb, big_i 10 (by omega) (by omega) (by decide)⟩ rfl
      · exact nx (s' := ⟨.inner, some (s.f.getD 0 * s.wd + srW (l.getD s.a 0)), s.sg, s.a + 1, s.wd⟩) (if_pos ⟨fun q' => q.1 (nm_iff.mpr q'), q.2⟩) rfl rfl
    replace n3 : ¬ (¬ isS s.st .behind = true ∧ srK (l.getD s.a 0) = "digit" ∧ srW (l.getD s.a 0) < s.wd) := fun q => n3 ⟨fun q' => q.1 (nm_iff.mp q'), q.2⟩
    rw [if_neg n3] at nx no
    refine and3f (p := srK (l.getD s.a 0) = "blank") (q := nm s.st = nm .inner) (f := s.f) (fun q => ?_) (fun n4 => ?_)
    · exact Exists.intro _ (And.intro rfl (nx (s' := ⟨.behind, s.f, s.sg, s.a + 1, s.wd⟩) (if_pos ⟨q.1, nm_iff.mp q.2.1, q.2.2⟩) rfl rfl))
    replace n4 : ¬ (srK (l.getD s.a 0) = "blank" ∧ isS s.st .inner = true ∧ s.f ≠ none) := fun q => n4 ⟨q.1, nm_iff.mpr q.2.1, q.2.2⟩
    rw [if_neg n4] at nx no
    refine or2n (p := srK (l.getD s.a 0) = "blank") (q := nm s.st ∈ [nm .signed, nm .inner]) (fun q => ?_) (fun n5 => ?_)
    · exact no (if_pos (q.imp id memS2.mp))
    · exact nx (s' := ⟨s.st, s.f, s.sg, s.a + 1, s.wd⟩) (if_neg fun q => n5 (q.imp id memS2.mpr)) rfl rfl
  · have e2 : lrd l b w k s = lfin w s := by
      cases k with
      | zero => rfl
      | succ k => unfold lrd; rw [if_neg (by omega)]
    rw [e2] at e
    refine cmpE (fun c => ?_) (fun c => ?_)
    · unfold lfin at e; rw [c] at e; exact congrArg Fl.ret e
    · obtain ⟨x, hx⟩ := Option.ne_none_iff_exists'.mp c
      have fb := fbig hl ok
      unfold lfin at e
      rw [hx] at e fb ⊢
      refine And.intro ⟨?_, fb⟩ (Exists.intro _ (And.intro ⟨_, _, rfl, rfl, h0, h1⟩ (congrArg Fl.ret e)))
      rcases ok.sg with h | h <;> rw [h] <;> exact big_i 3 (by decide) (by decide) (by decide)

noncomputable def sBytes (xs : List V) (r : V) : Prop := ∃ l, xs = [.own l] ∧ r = .bytes l ∧ (∀ i ∈ l, 0 ≤ i ∧ i < 256) ∧ l.length ≤ 100000
theorem byteArr_ints {l : List Int} (h : ∀ i ∈ l, 0 ≤ i ∧ i < 256) : KBw.bInts (byteArr l) = l := by
  unfold KBw.bInts byteArr
  rw [List.toList_toArray, List.map_map]
  conv => rhs; rw [← List.map_id l]
  exact List.map_congr_left fun i hi => by
    have := h i hi
    show ((i.toNat.toUInt8.toNat : Nat) : Int) = i
    exact byte_back this.1 this.2
theorem b_bytes {g : Gl} {d : Nat} {xs : List V} {r : V} (h : sBytes xs r) : Con g d (.type "bytes") xs r := by
  obtain ⟨l, rfl, rfl, hr, hl⟩ := h
  intro c news m s ws Q S hrl kt
  obtain ⟨_, _, rfl, ⟨a, vs, nv, rfl, hm, hi⟩, rfl⟩ := hrl
  refine call_bytes_ints (News.isList S.N hm) hi hr (by rw [hi.length, sizeLine_eq]; exact Nat.le_trans hl (Nat.le_of_ble_eq_true rfl)) rfl fun h' t k hk => ?_
  exact kt _ _ news h' k rfl ⟨_, _, rfl, byteArr_ints hr⟩ .rfl ⟨S.F.keeps hk, S.N.grown hk⟩

/-- the digits, the least first -/
noncomputable def ldi (b : Int) : Nat → Int → List Int
  | 0, _ => []
  | k + 1, n => if n ≤ 0 then [] else n.fmod b :: ldi b k (n / b)
noncomputable def dgs (n b : Int) : List Int := (if n ≤ 0 then [0] else ldi b 400 n).reverse
theorem ldi_len (b : Int) : ∀ (k : Nat) (n : Int), (ldi b k n).length ≤ k
  | 0, _ => Nat.le_refl _
  | k + 1, n => by
    unfold ldi
    split
    · exact Nat.zero_le _
    · exact Nat.succ_le_succ (ldi_len b k _)
theorem ldi_zero (b : Int) {n : Int} (h : n ≤ 0) : ∀ k, ldi b k n = []
  | 0 => rfl
  | k + 1 => if_pos h
theorem div_small {b n : Int} {k : Nat} (hb : 2 ≤ b) (h0 : 0 < n) (h1 : n < 2 ^ (k + 1)) : 0 ≤ n / b ∧ n / b < n ∧ n / b < 2 ^ k := by
  rw [Int.pow_succ] at h1
  have p : (0 : Int) < 2 ^ k := Int.pow_pos (by decide)
  have e1 : n * 2 ≤ n * b := Int.mul_le_mul_of_nonneg_left hb (by omega)
  have e2 : (2 : Int) ^ k * 2 ≤ 2 ^ k * b := Int.mul_le_mul_of_nonneg_left hb (by omega)
  exact ⟨Int.ediv_nonneg (by omega) (by omega), Int.ediv_lt_of_lt_mul (by omega) (by omega), Int.ediv_lt_of_lt_mul (by omega) (by omega)⟩
theorem dgs_len (n b : Int) : (dgs n b).length ≤ 400 := by
  unfold dgs
  rw [List.length_reverse]
  split
  · decide
  · exact ldi_len b 400 n
/-- a list's first end -/
noncomputable def gE (ρ : Rho) (x : Str) : Nat := match lkp ρ x with
  | some (.own []) => 1
  | _ => 0
theorem ag_none {g : Gl} {d : Nat} {c : Cx g d} {nw : List (Addr × Obj)} {m : Str → Option Value} {ρ : Rho} (h : (ρ.all fun p => p.2.isNone) = true) : Ag c nw ρ m := fun x v e => by
  induction ρ with
  | nil => exact (nomatch (show none = some _ from e))
  | cons p r ih =>
    have h' := Bool.and_eq_true_iff.mp h
    by_cases hx : x = p.1
    · rw [lkp_yes hx] at e
      have q : p.2.isNone = true := h'.1
      rw [e] at q
      exact Bool.noConfusion q
    · exact ih h'.2 ((lkp_no hx).symm.trans e)
noncomputable def sDigits (xs : List V) (r : V) : Prop := ∃ n b, xs = [.int n, .int b] ∧ r = .own (dgs n b) ∧ 0 ≤ n ∧ n < 2 ^ 400 ∧ 2 ≤ b ∧ b ≤ 36
theorem c_digits {g : Gl} (H : GA g) {xs : List V} {r : V} (h : sDigits xs r) : Con g 1 (.ref 216) xs r := by
  obtain ⟨n, b, rfl, rfl, h0, hn, hb, hb2⟩ := h
  have H' : FnK g _ 216 _ _ _ := H.f23
  refine con3 H' ["n", "base"] ["found"] (by decide +kernel) rfl rfl (fun ws fd h e1 e2 e3 => by obtain ⟨a, b, rfl⟩ := l2 h; cases fd; cases e1; cases e2; cases e3; rfl) ?_
  intro c news m s Q hc hl S a k
  rw [← hc] at hl
  obtain ⟨hE, -, -, -, hB, -⟩ := s_all (c := c) (G := tb []) gok0 12
  refine m_new (x := "found") (by rfl) hl S a fun nw1 m1 h1 tk1 M1 => ?_
  obtain ⟨T, hT⟩ : ∃ T, (if n ≤ 0 then [0] else ldi b 400 n) = T := ⟨_, rfl⟩
  have hd : dgs n b = T.reverse := by unfold dgs; rw [hT]
  rw [hd] at k
  clear hd
  refine m_whl (μ := fun ρ => 2 * gI ρ "n" + gE ρ "found") (I := fun ρ => ∃ (n' : Int) (acc : List Int) (k : Nat), ρ = ([("n", some (.int n')), ("base", some (.int b)), ("found", some (.own acc))] : Rho) ∧ 0 ≤ n' ∧ n' < 2 ^ k ∧ (acc.length ≤ 401 ∧ (acc.length + k ≤ 400 ∨ n' ≤ 0)) ∧ acc ++ (if n' ≤ 0 ∧ acc = [] then [0] else ldi b k n') = T) (X := fun ρ => ∃ (n' : Int) (acc : List Int), ρ = ([("n", some (.int n')), ("base", some (.int b)), ("found", some (.own acc))] : Rho) ∧ (0 < n' ∨ acc = [])) (Y := fun ρ => ∃ (n' : Int) (acc : List Int), ρ = ([("n", some (.int n')), ("base", some (.int b)), ("found", some (.own acc))] : Rho) ∧ n' ≤ 0 ∧ acc ≠ []) hB ⟨n, [], 400, rfl, h0, hn, ⟨by decide, .inl (by decide)⟩, ?_⟩ hl M1 ?_ ?_ ?_
  · rw [← hT]
    by_cases hz : n ≤ 0
    · rw [if_pos ⟨hz, rfl⟩, if_pos hz]; rfl
    · rw [if_neg (fun q => hz q.1), if_neg hz]; rfl
  · rintro ρ' ⟨n', acc, k', rfl, hn0, hn1, hlen, e⟩
    refine And.intro (fun hp => ⟨n', acc, rfl, .inl hp⟩) (fun hp => And.intro rfl (And.intro rfl (And.intro (fun ha => ⟨n', acc, rfl, .inr ha⟩) (fun ha => ⟨n', acc, rfl, by omega, ha⟩))))
  · rintro ρ' nx m' h' tk Qb ⟨n', acc, k', rfl, hn0, hn1, hlen, e⟩ ⟨n'', acc', hr, hx⟩ hk M' kb
    obtain ⟨rfl, rfl⟩ : n'' = n' ∧ acc' = acc := by cases hr; exact ⟨rfl, rfl⟩
    clear hr
    have hl' := hl.same hk
    refine m_app hE hl' M' (i := n''.fmod b) (by rfl) (And.intro (by omega) rfl) rfl rfl (by omega) (by rfl) fun nx2 m2 h2 tk2 M2 => ?_
    have hl2 : LocOk c.cs ([("n", some (.int n'')), ("base", some (.int b)), ("found", some (.own (acc' ++ [n''.fmod b])))] : Rho) := hl'.same rfl
    refine m_asg hE hl2 M2 (v := .int (n'' / b)) (And.intro ⟨by omega, big_i 10 (by omega) (by omega) (by decide)⟩ rfl) rfl (by rfl) (by decide) fun nx3 m3 h3 tk3 M3 => wpAny_execs_nil ?_
    have hgE : gE ([("n", some (.int (n'' / b))), ("base", some (.int b)), ("found", some (.own (acc' ++ [n''.fmod b])))] : Rho) "found" = 0 := by cases acc' <;> rfl
    by_cases hz : 0 < n''
    · cases k' with
      | zero => have : (2 : Int) ^ 0 = 1 := rfl; omega
      | succ k' =>
        have ⟨d1, d2, d3⟩ := div_small hb hz hn1
        refine kb _ _ _ h3 _ ⟨n'' / b, acc' ++ [n''.fmod b], k', rfl, d1, d3, by rw [List.length_append, List.length_singleton]; omega, ?_⟩ ?_ rfl M3
        · rw [if_neg (fun q => by have := q.2; cases acc' <;> cases this), List.append_assoc, ← e, if_neg (fun q => by omega)]
          have : ldi b (k' + 1) n'' = n''.fmod b :: ldi b k' (n'' / b) := if_neg (by omega)
          rw [this]; rfl
        · show 2 * (n'' / b).toNat + gE _ _ < 2 * n''.toNat + _
          have := hgE
          rw [this]
          omega
    · have hz0 : n'' = 0 := by omega
      have ha : acc' = [] := hx.resolve_left hz
      subst hz0 ha
      have hzb : (0 : Int) / b = 0 := Int.zero_ediv b
      have hfb : (0 : Int).fmod b = 0 := Int.zero_fmod b
      rw [if_pos ⟨by omega, rfl⟩] at e
      refine kb _ _ _ h3 _ ⟨0 / b, [] ++ [(0 : Int).fmod b], k', rfl, by omega, by rw [hzb]; exact hn1, ⟨Nat.le_of_ble_eq_true rfl, .inr (Int.le_of_eq hzb)⟩, ?_⟩ ?_ rfl M3
      · rw [if_neg (fun q => by have := q.2; cases this), hzb, ldi_zero b (Int.le_refl _), hfb, ← e]; rfl
      · show 2 * ((0 : Int) / b).toNat + gE _ _ < 2 * (0 : Int).toNat + 1
        have := hgE
        rw [this, hzb]
        decide
  · rintro ρ' nx m' h' tk ⟨n', acc, k', rfl, hn0, hn1, hlen, e⟩ ⟨n'', acc', hr, hz, ha⟩ hk M'
    obtain ⟨rfl, rfl⟩ : n'' = n' ∧ acc' = acc := by cases hr; exact ⟨rfl, rfl⟩
    rw [if_neg (fun q => ha q.2), ldi_zero b hz, List.append_nil] at e
    subst e
    refine m_retrev hE (hl.same hk) M' (by rfl) rfl (by omega) fun nw2 h2 tk2 D S2 hs2 hr2 => ?_
    exact k _ (.ret (.own acc'.reverse)) ([("n", none), ("base", none), ("found", none)] : Rho) m' nw2 h2 tk2 rfl ⟨_, rfl, hr2⟩ ⟨rfl, ag_none rfl, M'.sub.trans hs2, S2⟩
/-- a number's text -/
noncomputable def ntx (n : Int) : List Int := (if n < 0 then [45] else []) ++ (dgs (if n < 0 then -n else n) 10).map (48 + ·)
noncomputable def sNum (xs : List V) (r : V) : Prop := ∃ n, xs = [.int n] ∧ r = .bytes (ntx n) ∧ -(2 ^ 400) < n ∧ n < 2 ^ 400
theorem ldi_dig {b : Int} (hb : 2 ≤ b) : ∀ (k : Nat) (n : Int), ∀ i ∈ ldi b k n, 0 ≤ i ∧ i < b
  | 0, _ => fun _ h => (nomatch h)
  | k + 1, n => fun i h => by
    unfold ldi at h
    split at h
    · exact (nomatch h)
    · rcases List.mem_cons.mp h with rfl | h
      · rw [Int.fmod_eq_emod_of_nonneg _ (by omega)]
        exact ⟨Int.emod_nonneg _ (by omega), Int.emod_lt_of_pos _ (by omega)⟩
      · exact ldi_dig hb k _ i h
theorem dgs_dig {b : Int} (hb : 2 ≤ b) (n : Int) : ∀ i ∈ dgs n b, 0 ≤ i ∧ i < b := fun i h => by
  unfold dgs at h
  rw [List.mem_reverse] at h
  split at h
  · rw [List.mem_singleton.mp h]; omega
  · exact ldi_dig hb _ _ i h
theorem ldi_fuel {b : Int} (hb : 2 ≤ b) : ∀ (k j : Nat) (n : Int), n < 2 ^ k → n < 2 ^ j → ldi b k n = ldi b j n
  | 0, j, n, h, _ => by rw [ldi_zero b (by have : (2 : Int) ^ 0 = 1 := rfl; omega), ldi_zero b (by have : (2 : Int) ^ 0 = 1 := rfl; omega)]
  | k + 1, 0, n, _, h => by rw [ldi_zero b (by have : (2 : Int) ^ 0 = 1 := rfl; omega), ldi_zero b (by have : (2 : Int) ^ 0 = 1 := rfl; omega)]
  | k + 1, j + 1, n, h1, h2 => by
    by_cases hn : n ≤ 0
    · rw [ldi_zero b hn, ldi_zero b hn]
    · have a := div_small hb (by omega) h1
      have c := div_small hb (by omega) h2
      show (if n ≤ 0 then [] else _) = (if n ≤ 0 then [] else _)
      rw [if_neg hn, if_neg hn, ldi_fuel hb k j (n / b) a.2.2 c.2.2]
theorem c_num {g : Gl} (H : GA g) {xs : List V} {r : V} (h : sNum xs r) : Con g 1 (.ref 160) xs r := by
  obtain ⟨n, rfl, rfl, hn0, hn1⟩ := h
  have H' : FnK g _ 160 _ _ _ := H.f14
  refine con3 H' ["n"] ["left", "found"] (by decide +kernel) rfl rfl (fun ws fd h e1 e2 e3 => by obtain ⟨a, rfl⟩ := l1 h; cases fd; cases e1; cases e2; cases e3; rfl) ?_
  intro c news m s Q hc hl S a k
  rw [← hc] at hl
  have hG : GOk g 0 c.cs ⟨[⟨"abs", sAbs⟩, ⟨"bytes", sBytes⟩], [], []⟩ := by rw [hc]; exact (gok_c (f := ⟨"abs", sAbs⟩) ⟨by decide +kernel, by decide +kernel, .bi "abs" H.nabs (by decide +kernel) (by decide) fun xs r h => b_abs h⟩ (gok_c (f := ⟨"bytes", sBytes⟩) ⟨by decide +kernel, by decide +kernel, .ty "bytes" H.nbytes (by decide +kernel) (by decide) fun xs r h => b_bytes h⟩ gok0))
  obtain ⟨hE, -, -, -, hB, -⟩ := s_all (c := c) hG 12
  obtain ⟨p, hp⟩ : ∃ p, (if n < 0 then -n else n) = p := ⟨_, rfl⟩
  have hp0 : 0 ≤ p ∧ p < 2 ^ 400 := by rw [← hp]; split <;> omega
  refine m_new2 (x := "found") (y := "left") hE hl S a (v := .int p) (Exists.intro _ (And.intro ⟨n, rfl, rfl⟩ (congrArg V.int hp))) rfl (by decide) (by rfl) (by rfl) (by rfl) fun nw1 m1 h1 tk1 M1 => ?_
  obtain ⟨T, hT⟩ : ∃ T, (if p ≤ 0 then [0] else ldi 10 400 p) = T := ⟨_, rfl⟩
  have hd : dgs p 10 = T.reverse := by unfold dgs; rw [hT]
  have hl1 : LocOk c.cs ([("n", some (.int n)), ("left", some (.int p)), ("found", some (.own []))] : Rho) := hl.same rfl
  refine m_whl (ρ := [("n", some (.int n)), ("left", some (.int p)), ("found", some (.own []))]) (μ := fun ρ => gI ρ "left") (I := fun ρ => ∃ (n' : Int) (acc : List Int) (k : Nat), ρ = ([("n", some (.int n)), ("left", some (.int n')), ("found", some (.own acc))] : Rho) ∧ 0 ≤ n' ∧ n' < 2 ^ k ∧ acc.length + k ≤ 400 ∧ acc ++ (if n' ≤ 0 then [0] else ldi 10 k n').map (48 + ·) = T.map (48 + ·)) (X := fun ρ => ∃ (n' : Int) (acc : List Int), ρ = ([("n", some (.int n)), ("left", some (.int n')), ("found", some (.own acc))] : Rho) ∧ 9 < n') (Y := fun ρ => ∃ (n' : Int) (acc : List Int), ρ = ([("n", some (.int n)), ("left", some (.int n')), ("found", some (.own acc))] : Rho) ∧ n' ≤ 9) hB ⟨p, [], 400, rfl, hp0.1, hp0.2, by decide, by rw [hT]; rfl⟩ hl1 M1 ?_ ?_ ?_
  · rintro ρ' ⟨n', acc, k', rfl, hn0, hn1, hlen, e⟩
    exact And.intro (fun hp => ⟨n', acc, rfl, hp⟩) (fun hp => ⟨n', acc, rfl, by omega⟩)
  · rintro ρ' nx m' h' tk Qb ⟨n', acc, k', rfl, hn0, hn1, hlen, e⟩ ⟨n'', acc', hr, hx⟩ hk M' kb
    obtain ⟨rfl, rfl⟩ : n'' = n' ∧ acc' = acc := by cases hr; exact ⟨rfl, rfl⟩
    clear hr
    refine m_app hE (hl1.same hk) M' (i := 48 + n''.fmod 10) (by rfl) (And.intro (by decide) rfl) rfl rfl (by omega) (by rfl) fun nx2 m2 h2 tk2 M2 => ?_
    have hl2 : LocOk c.cs ([("n", some (.int n)), ("left", some (.int n'')), ("found", some (.own (acc' ++ [48 + n''.fmod 10])))] : Rho) := hl.same rfl
    refine m_asg hE hl2 M2 (v := .int (n'' / 10)) (And.intro ⟨by decide, big_i 10 (by decide) (by decide) (by decide)⟩ rfl) rfl (by rfl) (by decide) fun nx3 m3 h3 tk3 M3 => wpAny_execs_nil ?_
    cases k' with
    | zero => have : (2 : Int) ^ 0 = 1 := rfl; omega
    | succ k' =>
      have ⟨d1, d2, d3⟩ := div_small (b := 10) (by decide) (by omega) hn1
      refine kb _ _ _ h3 _ ⟨n'' / 10, acc' ++ [48 + n''.fmod 10], k', rfl, d1, d3, by rw [List.length_append, List.length_singleton]; omega, ?_⟩ ?_ rfl M3
      · rw [if_neg (by omega)] at e ⊢
        have : ldi 10 (k' + 1) n'' = n''.fmod 10 :: ldi 10 k' (n'' / 10) := if_neg (by omega)
        rw [List.append_assoc, ← e, this]; rfl
      · show (n'' / 10).toNat < n''.toNat
        omega
  · rintro ρ' nx m' h' tk ⟨n', acc, k', rfl, hn0, hn1, hlen, e⟩ ⟨n'', acc', hr, hz⟩ hk M'
    obtain ⟨rfl, rfl⟩ : n'' = n' ∧ acc' = acc := by cases hr; exact ⟨rfl, rfl⟩
    clear hr
    have eT : acc' ++ [48 + n''] = T.map (48 + ·) := by
      rw [← e]
      congr 1
      split
      · have : n'' = 0 := by omega
        rw [this]; rfl
      · cases k' with
        | zero => have : (2 : Int) ^ 0 = 1 := rfl; omega
        | succ k' =>
          have : ldi 10 (k' + 1) n'' = n''.fmod 10 :: ldi 10 k' (n'' / 10) := if_neg (by omega)
          rw [this, ldi_zero 10 (by omega), Int.fmod_eq_emod_of_nonneg _ (by decide)]
          show [48 + n''] = [48 + n'' % 10]
          rw [Int.emod_eq_of_lt hn0 (by omega)]
    refine m_app hE (hl1.same hk) M' (i := 48 + n'') (by rfl) rfl rfl rfl (by omega) (by rfl) fun nx2 m2 h2 tk2 M2 => ?_
    have hl2 : LocOk c.cs ([("n", some (.int n)), ("left", some (.int n'')), ("found", some (.own (acc' ++ [48 + n''])))] : Rho) := hl.same rfl
    have fin : ∀ (l : List Int) (nx : List (Addr × Obj)) (m' : Str → Option Value) (h' : Heap) (tk : Nat), l.reverse = ntx n → l.length ≤ 500 → Ms c news "found" ([("n", some (.int n)), ("left", some (.int n'')), ("found", some (.own l))] : Rho) nx m' h' → wpAny (W g) c.A (execs ((fbd 14).drop 4) c.env) Q noE { s with heap := h', toks := tk } := by
      intro l nx m' h' tk hl3 hlen3 M3
      have hl4 : LocOk c.cs ([("n", some (.int n)), ("left", some (.int n'')), ("found", some (.own l))] : Rho) := hl.same rfl
      refine m_rev hl4 M3 (acc := l) (by rfl) rfl (by omega) (by rfl) (by rfl) fun nx4 m4 h4 tk4 M4 => ?_
      have hl5 : LocOk c.cs ([("n", some (.int n)), ("left", some (.int n'')), ("found", some (.own l.reverse))] : Rho) := hl.same rfl
      refine wpAny_execs_cons (wpAny_Return_some (hE _ ([("n", some (.int n)), ("left", some (.int n'')), ("found", some (.own l.reverse))] : Rho) (· = .bytes (ntx n)) nx4 m4 _ _ (Exists.intro _ (And.intro ⟨l.reverse, rfl, rfl, ?_, by rw [List.length_reverse]; omega⟩ (congrArg V.bytes hl3))) hl5 M4.st M4.ag fun v z nw5 h5 tk5 hz hr5 hs5 S5 => ?_))
      · rw [hl3]
        intro i hi
        unfold ntx at hi
        rcases List.mem_append.mp hi with hi | hi
        · split at hi
          · rw [List.mem_singleton.mp hi]; decide
          · exact (nomatch hi)
        · obtain ⟨j, hj, rfl⟩ := List.mem_map.mp hi
          have := dgs_dig (b := 10) (by decide) _ j hj
          omega
      · subst hz
        exact k _ (.ret (.bytes (ntx n))) ([("n", none), ("left", none), ("found", none)] : Rho) m4 nw5 h5 tk5 rfl ⟨_, rfl, hr5⟩ ⟨rfl, ag_none rfl, M4.sub.trans hs5, S5⟩
    have hrev : (acc' ++ [48 + n'']).reverse = (dgs p 10).map (48 + ·) := by rw [eT, hd, List.map_reverse]
    refine m_if (X := n < 0) (Y := ¬ n < 0) hB hl2 M2 (And.intro (fun h => h) (fun h => h)) (fun nx3 h3 tk3 Qb hneg M3 kb => ?_) (fun nx3 h3 tk3 hnn M3 => ?_)
    · refine m_app hE hl2 M3 (i := 45) (by rfl) rfl rfl rfl (by rw [List.length_append, List.length_singleton]; omega) (by rfl) fun nx4 m4 h4 tk4 M4 => wpAny_execs_nil (kb _ ?_)
      refine fin (acc' ++ [48 + n''] ++ [45]) nx4 m4 h4 tk4 ?_ (by rw [List.length_append, List.length_append, List.length_singleton, List.length_singleton]; omega) M4
      rw [List.reverse_append, hrev]
      unfold ntx
      rw [if_pos hneg, hp]; rfl
    · refine fin (acc' ++ [48 + n'']) nx3 _ h3 tk3 ?_ (by rw [List.length_append, List.length_singleton]; omega) M3
      rw [hrev]
      unfold ntx
      rw [if_neg hnn, hp]; rfl

section
variable {g : Gl} {d : Nat} {c : Cx g d} {news : List (Addr × Obj)} {m : Str → Option Value} {s : Shared} {env : Env} {elt iter : Expr} {x : Str} {px pos : Pos} {scope : Scope} {cl : List (Str × Addr)}
/-- a comprehension's element, at the item k, is the int o -/
noncomputable def ElOk (c : Cx g d) (news : List (Addr × Obj)) (m : Str → Option Value) (elt : Expr) (scope : Scope) (cl : List (Str × Addr)) (env : Env) (x : Str) (k o : Int) : Prop :=
  ∀ (t : Tok) (C : Addr) (oC : Obj) (m₂ : Str → Option Value) (s' : Shared) (nw : List (Addr × Obj)), LCg.NsObj oC m₂ → m₂ x = some (.int k t) → St c nw m s'.heap → Sub news nw → (C, oC) ∈ nw →
    wpAny (W g) c.A (eval elt (compEnvC scope cl C env)) (fun y s2 => ∃ t h' tk' nw', y = .int o t ∧ s2 = { s' with heap := h', toks := tk' } ∧ St c nw' m h' ∧ Sub nw nw') noE s'

theorem comp_rest {S : List (Addr × Obj) → Prop} {P : Nat → Value → Prop} {Fin : List Value → List (Addr × Obj) → Prop} {items out : List Int} (hP : ∀ i v, i < items.length → P i v → ∃ k t, items[i]? = some k ∧ v = .int k t) (hlen : out.length = items.length)
    (hel : ∀ (i : Nat) (k o : Int), items[i]? = some k → out[i]? = some o → ElOk c news m elt scope cl env x k o) (hS : S news) (hfin : ∀ ys, IntsAre ys out → Fin ys news) :
    ∀ (k i : Nat) (ys : List Value), i + k = items.length → IntsAre ys (out.take i) → LCg.CompRest g.prog g.w c.A c.h₀ c.L m env elt x scope cl s S P Fin k i ys news
  | 0, i, ys, hi, hy => hfin ys (by rwa [List.take_of_length_le (by omega)] at hy)
  | k + 1, i, ys, hi, hy => by
    intro v I oI C oC D m₂ h tk E' hPv hN hx F N off ne
    obtain ⟨a, t, ha, rfl⟩ := hP i v (by omega) hPv
    have ho : out[i]? = some out[i] := List.getElem?_eq_getElem (by omega)
    refine wpAny_mono (hel i a _ ha ho t C oC m₂ { s with heap := h, toks := tk } _ hN hx ⟨F, N⟩ (fun p hp => .tail _ (.tail _ (.tail _ hp))) (.tail _ (.head _))) (fun y s2 q => ?_) fun _ _ e => e.elim
    obtain ⟨t', h', tk', nw', rfl, rfl, S', sb⟩ := q
    refine LCg.CompEnd.intro S'.F S'.N news sb off hS ?_
    refine comp_rest hP hlen hel hS hfin k (i + 1) _ (by omega) ?_
    rw [List.take_add_one, ho]
    exact ints_app hy (.cons _ _ .nil)

/-- what goes along a made list or a range -/
theorem lc_U {src : V} {items out : List Int} {Q : Value → Shared → Prop} (hsrc : src = .own items ∨ ∃ n, src = .rng n ∧ items = (List.range n).map fun (i : Nat) => (i : Int)) (S : St c news m s.heap)
    (h : wpAny (W g) c.A (eval iter env) (fun v s₁ => ∃ news1 h1 tk1, s₁ = { s with heap := h1, toks := tk1 } ∧ R c.h₀ news1 v src ∧ Sub news news1 ∧ St c news1 m h1) noE s)
    (hclos : closureFor scope env = pure cl) (hcell : ∀ y ∈ scope.names, y.2 ≠ .cell) (hkind : scope.kind = .function) (hnames : ∀ y ∈ scope.names, y.2 = .local → scope.names.lookup y.1 = some .local) (hx : scope.names.lookup x = some .local)
    (hs : ∀ x, foldedSetIterable iter env x = pure x) (hsz : items.length ≤ 100000) (hlen : out.length = items.length) (hel : ∀ (i : Nat) (k o : Int), items[i]? = some k → out[i]? = some o → ElOk c news m elt scope cl env x k o) (k : Kt c news m s (· = .own out) Q) :
    wpAny (W g) c.A (eval (.ListComp elt [⟨.Name x px, iter, [], 0⟩] scope pos) env) Q noE s := by
  refine LCg.ListComp_U S.F hclos hcell hkind hnames hx (wpAny_mono h (fun v s₁ q => ?_) fun _ _ e => e) hs
  obtain ⟨news1, h1, tk1, rfl, hr, hsb, S1⟩ := q
  have hz : items.length ≤ sizeLine := by rw [sizeLine_eq]; exact Nat.le_trans hsz (Nat.le_of_ble_eq_true rfl)
  have fin : ∀ g', ∀ ys, IntsAre ys out → LCg.FinE c.h₀ c.L m { s with heap := g', toks := tk1 } Q ys news1 := fun g' ys hy D h2 tk2 F2 N2 _ =>
    k _ _ _ h2 tk2 rfl ⟨D, ys, _, rfl, .head _, hy⟩ (fun p hp => .tail _ (hsb p hp)) ⟨F2, N2⟩
  have hel' : ∀ (i : Nat) (k o : Int), items[i]? = some k → out[i]? = some o → ElOk c news1 m elt scope cl env x k o := fun i k o e1 e2 t C oC m₂ s' nw a1 a2 a3 a4 => hel i k o e1 e2 t C oC m₂ s' nw a1 a2 a3 (hsb.trans a4)
  rcases hsrc with rfl | ⟨n, rfl, rfl⟩
  · obtain ⟨a, vs, nv, rfl, hm, hi⟩ := hr
    have e := hi.length
    refine LCg.CompSrc.ledger rfl S1.F S1.N hm (by rw [List.size_toArray, e]; exact hz) fun g' => ?_
    refine comp_rest (items := items) (fun i v _ hv => ?_) hlen hel' (.inr ⟨_, hm, rfl, _, rfl⟩) (fin g') _ 0 [] (by rw [List.size_toArray, e, Nat.zero_add]) .nil
    obtain ⟨k0, t, rfl, hk⟩ := IntsAre.at hi i v (by simpa using hv)
    exact ⟨k0, t, hk, rfl⟩
  · obtain ⟨hn, a, t, u, w, rfl, hm⟩ := hr
    rw [List.length_map, List.length_range] at hz
    have hsize : Builtin.Range.rangeSize 0 n 1 = (n : Int) := by unfold Builtin.Range.rangeSize; simp; omega
    refine LCg.CompSrc.range (a := 0) (b := n) rfl S1.F S1.N (S1.N _ hm).1 ?_ hsize hz fun g' => ?_
    · unfold Builtin.Range.small
      rw [hsize]
      have hf : ∀ z : Int, 0 ≤ z → z ≤ 2000000 → Builtin.Range.rangeFitsLong z = true := fun z h1 h2 => by
        unfold Builtin.Range.rangeFitsLong
        simp
        omega
      rw [hf 0 (by decide) (by decide), hf n (by omega) (by omega), hf 1 (by decide) (by decide), if_pos (by decide), hf _ (by omega) (by omega)]
      simp
    · refine comp_rest (items := (List.range n).map fun (i : Nat) => (i : Int)) (fun i v hi hv => ?_) hlen hel' trivial (fin g') n 0 [] (by rw [List.length_map, List.length_range, Nat.zero_add]) .nil
      obtain ⟨t, rfl⟩ := hv
      rw [List.length_map, List.length_range] at hi
      exact ⟨i, t, by simp [hi], by simp⟩

/-- what goes along bytes -/
theorem lc_Y {items out : List Int} {Q : Value → Shared → Prop} (S : St c news m s.heap)
    (h : wpAny (W g) c.A (eval iter env) (fun v s₁ => ∃ news1 h1 tk1, s₁ = { s with heap := h1, toks := tk1 } ∧ R c.h₀ news1 v (.bytes items) ∧ Sub news news1 ∧ St c news1 m h1) noE s)
    (hclos : closureFor scope env = pure cl) (hcell : ∀ y ∈ scope.names, y.2 ≠ .cell) (hkind : scope.kind = .function) (hnames : ∀ y ∈ scope.names, y.2 = .local → scope.names.lookup y.1 = some .local) (hx : scope.names.lookup x = some .local)
    (hs : ∀ x, foldedSetIterable iter env x = pure x) (hsz : items.length ≤ 100000) (hlen : out.length = items.length) (hel : ∀ (i : Nat) (k o : Int), items[i]? = some k → out[i]? = some o → ElOk c news m elt scope cl env x k o) (k : Kt c news m s (· = .own out) Q) :
    wpAny (W g) c.A (eval (.ListComp elt [⟨.Name x px, iter, [], 0⟩] scope pos) env) Q noE s := by
  rw [eval_ListComp]
  refine wpAny_comprehension_free (use := none) rfl hs hclos hkind hnames (wpAny_mono h (fun xv s₁ q => ?_) fun _ _ e => e)
  obtain ⟨news1, h1, tk1, rfl, hr, hsb, S1⟩ := q
  obtain ⟨bb, t, rfl, hb⟩ := hr
  have hz : items.length ≤ sizeLine := by rw [sizeLine_eq]; exact Nat.le_trans hsz (Nat.le_of_ble_eq_true rfl)
  have hbl : bb.size = items.length := by rw [← hb, KBw.ints_length]
  have hel' : ∀ (i : Nat) (k o : Int), items[i]? = some k → out[i]? = some o → ElOk c news1 m elt scope cl env x k o := fun i k o e1 e2 t C oC m₂ s' nw a1 a2 a3 a4 => hel i k o e1 e2 t C oC m₂ s' nw a1 a2 a3 (hsb.trans a4)
  refine KBw.pyIter_bytes ?_
  refine LCg.block_U (KBw.walks rfl h1.objs.size bb t) (by rw [hbl]; exact hz) (fun i h st => let ⟨o, e, _⟩ := st; ⟨o, e⟩) (fun i h h' o' nw st e e' _ _ _ => ?_) hcell hkind hx ⟨_, Heap.get?_push_size _ rfl, rfl, rfl⟩ (fun b hb => ?_)
    (S1.F.keeps fun _ _ e => Heap.get?_push_of_some _ e) (S1.N.grown fun _ _ e => Heap.get?_push_of_some _ e) (Nat.ne_of_lt S1.F.ns.lt) (next_is_new S1.F) (fun p hp => Nat.ne_of_lt (Heap.lt_size (S1.N p hp).1)) trivial
    (comp_rest (S := fun _ => True) (Fin := LCg.FinE c.h₀ c.L m { s with heap := h1, toks := tk1 } Q) (items := items) (fun i v _ hv => ?_) hlen hel' trivial (fun ys hy D h2 tk2 F2 N2 _ => k _ _ _ h2 tk2 rfl ⟨D, ys, _, rfl, .head _, hy⟩ (fun p hp => .tail _ (hsb p hp)) ⟨F2, N2⟩) _ 0 [] (by rw [hbl, Nat.zero_add]) .nil) ?_
  · obtain ⟨o, q, r⟩ := st
    rw [e] at q
    cases q
    exact ⟨_, e', r⟩
  · rw [List.mem_singleton.mp hb]
    show h1.objs.size < (h1.push _).objs.size
    rw [Heap.size_push]
    exact Nat.lt_succ_self _
  · obtain ⟨cc, u, hc, rfl⟩ := hv
    exact ⟨_, u, by rw [← hb]; exact KBw.ints_get hc, rfl⟩
  · intro D C h tk m' ys news' F' N' o1 hn hC₀ hD₀ hCL hDL hCD offC fin
    refine ⟨m', hn, fun h'' hs'' => fin D h'' tk (F'.change hs'' hCL hC₀) (fun p hp => ?_) o1⟩
    refine ⟨hs''.extBut _ _ ?_ (N' p hp).1, (N' p hp).2⟩
    rcases List.mem_cons.mp hp with rfl | hp
    · exact Ne.symm hCD
    · exact offC p hp
/-- a comprehension's own name -/
theorem lc_name {C : Addr} {oC : Obj} {m₂ : Str → Option Value} {s' : Shared} {nw : List (Addr × Obj)} {y : Str} {py : Pos} {v : Value} {E : Value → Shared → Prop} {Q : Value → Shared → Prop} (hN : LCg.NsObj oC m₂) (hy : m₂ y = some v) (S : St c nw m s'.heap) (hC : (C, oC) ∈ nw)
    (hk : scope.kind = .function) (hl : (compEnvC scope cl C env).kindOf y = some .local) (hd : (y == ("__debug__" : Str)) = false) (h : Q v s') : wpAny (W g) c.A (eval (.Name y py) (compEnvC scope cl C env)) Q E s' :=
  ldVarK (hN.ns (S.N _ hC).1) hy h hk hl hd
end

noncomputable section
noncomputable def svOf (s : Option Stmt) : Expr := Option.casesOn (motive := fun _ => Expr) s (.Constant .none 0 default) fun s => match s with
  | .Assign _ e _ => e
  | .Return (some e) _ => e
  | _ => .Constant .none 0 default
noncomputable def arg0 (e : Expr) : Expr := match e with
  | .Call _ (a :: _) _ _ => a
  | _ => .Constant .none 0 default
noncomputable def scOf (e : Expr) : Scope := match e with
  | .ListComp _ _ sc _ => sc
  | _ => default
noncomputable abbrev eOct : Expr := arg0 (svOf ((fbd 24)[0]?))
noncomputable abbrev eCap : Expr := arg0 (svOf ((fbd 25)[0]?))
end
noncomputable def tbl : List Int := [48, 49, 50, 51, 52, 53, 54, 55, 56, 57, 97, 98, 99, 100, 101, 102, 103, 104, 105, 106, 107, 108, 109, 110, 111, 112, 113, 114, 115, 116, 117, 118, 119, 120, 121, 122]
noncomputable def dch (i : Int) : Int := tbl.getD i.toNat 0
noncomputable def oct (n b : Int) : List Int := (if n < 0 then [45] else []) ++ (dgs (if n < 0 then -n else n) b).map dch
theorem tbl_in : ∀ i ∈ tbl, 0 ≤ i ∧ i < 256 := by decide
theorem dch_in (i : Int) : 0 ≤ dch i ∧ dch i < 256 := by
  unfold dch
  rw [List.getD_eq_getElem?_getD]
  cases e : tbl[i.toNat]? with
  | none => exact ⟨Int.le_refl _, by decide⟩
  | some x => exact tbl_in _ (List.mem_of_getElem? e)
noncomputable def spOct (ρ : Rho) (v : V) : Prop := ∃ n b, lkp ρ "n" = some (.int n) ∧ lkp ρ "base" = some (.int b) ∧ -(2 ^ 400) < n ∧ n < 2 ^ 400 ∧ 2 ≤ b ∧ b ≤ 36 ∧ v = .own ((dgs (if n < 0 then -n else n) b).map dch)
theorem map_at {f : Int → Int} {l : List Int} {i : Nat} {k o : Int} (h1 : l[i]? = some k) (h2 : (l.map f)[i]? = some o) : o = f k := by
  rw [List.getElem?_map, h1] at h2
  exact (Option.some.inj h2).symm
noncomputable abbrev tO : Tb := ⟨[⟨"_law_digits", sDigits⟩, ⟨"abs", sAbs⟩], [], []⟩
theorem o_oct {g : Gl} {sc : Scope} (hG : GOk g 1 sc tO) : OrOk g 1 sc eOct spOct := by
  intro c news ρ m s v Q hc ⟨n, b, en, eb, h1, h2, h3, h4, hv⟩ hl S a k
  subst hc hv
  obtain ⟨hE, -, -, -, -, -⟩ := s_all hG 12
  refine lc_U (src := .own (dgs (if n < 0 then -n else n) b)) (out := (dgs (if n < 0 then -n else n) b).map dch) (.inl rfl) S (hE _ ρ (· = .own (dgs (if n < 0 then -n else n) b)) news m s _ ?_ hl S a fun v x nw h' tk hx hr hs S' => ?_) (closureFor_none (by decide)) (by decide) rfl (by decide) rfl (fun _ => rfl) (Nat.le_trans (dgs_len _ _) (by decide)) (List.length_map ..) (fun i kk o e1 e2 => ?_) k
  · have hd : sDigits [.int (if n < 0 then -n else n), .int b] (.own (dgs (if n < 0 then -n else n) b)) := ⟨_, b, rfl, rfl, by split <;> omega, by split <;> omega, h3, h4⟩
    show Option.casesOn (motive := fun _ => Prop) (lkp ρ "n") _ _
    rw [en]
    refine Exists.intro _ (And.intro ⟨n, rfl, rfl⟩ ?_)
    show Option.casesOn (motive := fun _ => Prop) (lkp ρ "base") _ _
    rw [eb]
    exact Exists.intro _ (And.intro hd rfl)
  · subst hx
    exact ⟨nw, h', tk, rfl, hr, hs, S'⟩
  · have := dgs_dig h3 _ kk (List.mem_of_getElem? e1)
    have ho := map_at e1 e2
    subst ho
    intro t C oC m₂ s' nw hN hx S' hsb hC
    refine Subscript_ (Constant_bytes (lc_name hN hx S' hC rfl rfl (by decide) ?_))
    refine sub_s (a := .bytes tbl) (b := .int kk) (P := (· = .int (dch kk))) ⟨⟨⟨this.1, by show kk < 36; omega⟩, by decide⟩, fun _ => rfl⟩ ⟨_, _, rfl, rfl⟩ ⟨t, rfl⟩ rfl S'.F S'.N fun v z tk hz hr => ?_
    subst hz
    obtain ⟨t', rfl⟩ := hr
    exact ⟨t', s'.heap, _, nw, rfl, rfl, S', .rfl⟩
noncomputable def sOct (xs : List V) (r : V) : Prop := ∃ n b, xs = [.int n, .int b] ∧ r = .bytes (oct n b) ∧ -(2 ^ 400) < n ∧ n < 2 ^ 400 ∧ 2 ≤ b ∧ b ≤ 36
theorem c_oct {g : Gl} (H : GA g) {xs : List V} {r : V} (h : sOct xs r) : Con g 2 (.ref 221) xs r := by
  obtain ⟨n, b, rfl, rfl, h1, h2, h3, h4⟩ := h
  have H' : FnK g _ 221 _ _ _ := H.f24
  refine con2 H' ["n", "base"] ["inner"] ⟨[⟨"bytes", sBytes⟩], [], [(eOct, spOct)]⟩ 20 (gok_c (f := ⟨"bytes", sBytes⟩) ⟨by decide +kernel, by decide +kernel, .ty "bytes" H.nbytes (by decide +kernel) (by decide) fun xs r h => b_bytes h⟩ (gok_o (e := eOct) (sp := spOct) (o_oct (gok_c (f := ⟨"_law_digits", sDigits⟩) ⟨by decide +kernel, by decide +kernel, at_fn (show FnK g _ 216 _ _ _ from H.f23) fun xs r h => (c_digits H h)⟩ (gok_c (f := ⟨"abs", sAbs⟩) ⟨by decide +kernel, by decide +kernel, .bi "abs" H.nabs (by decide +kernel) (by decide) fun xs r h => b_abs h⟩ gok0))) gok0)) (by decide +kernel) rfl rfl (fun ws fd h e1 e2 e3 => by obtain ⟨a, b, rfl⟩ := l2 h; cases fd; cases e1; cases e2; cases e3; rfl) ?_
  have hr : ∀ i ∈ (dgs (if n < 0 then -n else n) b).map dch, 0 ≤ i ∧ i < 256 := fun i hi => by
    obtain ⟨j, _, rfl⟩ := List.mem_map.mp hi
    exact dch_in j
  have hlen := dgs_len (if n < 0 then -n else n) b
  have e : ∀ {l : List Int}, l = oct n b → Fl.ret (.bytes l) = Fl.ret (.bytes (oct n b)) := fun h => by rw [h]
  refine Exists.intro (.bytes ((dgs (if n < 0 then -n else n) b).map dch)) (And.intro ⟨_, .head _, rfl, _, ⟨n, b, rfl, rfl, h1, h2, h3, h4, rfl⟩, ?_⟩ ?_)
  · exact Exists.intro _ (And.intro ⟨_, rfl, rfl, hr, by rw [List.length_map]; omega⟩ rfl)
  · refine And.intro (fun hn => And.intro ?_ (e ?_)) (fun hn => e ?_)
    · show 1 + ((dgs (if n < 0 then -n else n) b).map dch).length ≤ 1000000
      rw [List.length_map]; omega
    · unfold oct; rw [if_pos hn, if_pos hn]; rfl
    · unfold oct; rw [if_neg hn, if_neg hn]; rfl

noncomputable def cap1 (k : Int) : Int := if 97 ≤ k ∧ k ≤ 122 then k - 32 else k
noncomputable def caps (l : List Int) : List Int := l.map cap1
noncomputable def spCap (ρ : Rho) (v : V) : Prop := ∃ l, lkp ρ "text" = some (.bytes l) ∧ l.length ≤ 1000 ∧ v = .own (caps l)
theorem o_cap {g : Gl} {sc : Scope} : OrOk g 0 sc eCap spCap := by
  intro c news ρ m s v Q hc ⟨l, el, h1, hv⟩ hl S a k
  subst hc hv
  have hG : GOk g 0 c.cs (tb []) := gok0
  obtain ⟨hE, -, -, -, -, -⟩ := s_all hG 3
  refine lc_Y (items := l) (out := caps l) S (hE _ ρ (· = .bytes l) news m s _ ?_ hl S a fun v x nw h' tk hx hr hs S' => ?_) (closureFor_none (by decide)) (by decide) rfl (by decide) rfl (fun _ => rfl) (by omega) (List.length_map ..) (fun i kk o e1 e2 => ?_) k
  · show Option.casesOn (motive := fun _ => Prop) (lkp ρ "text") _ _
    rw [el]
  · subst hx
    exact ⟨nw, h', tk, rfl, hr, hs, S'⟩
  · have ho := map_at e1 e2
    subst ho
    intro t C oC m₂ s' nw hN hx S' hsb hC
    have yes : ∀ tk, 97 ≤ kk → kk ≤ 122 → wpAny (W g) c.A (eval (.BinOp (.Name "octet" ⟨159, 18, 159, 23⟩) .Sub (.Constant (.int 32) 0 ⟨159, 26, 159, 28⟩) ⟨159, 18, 159, 28⟩) (compEnvC (scOf eCap) [] C c.env)) (fun y s2 => ∃ t h' tk' nw', y = .int (cap1 kk) t ∧ s2 = { s' with heap := h', toks := tk' } ∧ St c nw' m h' ∧ Sub nw nw') noE { s' with toks := tk } := fun tk h1 h2 =>
      wpAny_BinOp (lc_name hN hx (s' := { s' with toks := tk }) S' hC rfl rfl (by decide) (wpAny_Constant_int (sub_int ⟨_, s'.heap, _, nw, by unfold cap1; rw [if_pos ⟨h1, h2⟩], rfl, S', .rfl⟩)))
    have no : ∀ tk, ¬ (97 ≤ kk ∧ kk ≤ 122) → wpAny (W g) c.A (eval (.Name "octet" ⟨159, 56, 159, 61⟩) (compEnvC (scOf eCap) [] C c.env)) (fun y s2 => ∃ t h' tk' nw', y = .int (cap1 kk) t ∧ s2 = { s' with heap := h', toks := tk' } ∧ St c nw' m h' ∧ Sub nw nw') noE { s' with toks := tk } := fun tk h =>
      lc_name hN hx (s' := { s' with toks := tk }) S' hC rfl rfl (by decide) ⟨t, s'.heap, _, nw, by unfold cap1; rw [if_neg h], rfl, S', .rfl⟩
    refine wpAny_IfExp (isTrue_chain (wpAny_Constant_int (test_link (lc_name hN hx (s' := { s' with toks := s'.toks + 1 }) S' hC rfl rfl (by decide) (cmpI_s (o := .LtE) (P := fun b => b = decide (97 ≤ kk)) ⟨fun h => (decide_eq_true h).symm, fun h => (decide_eq_false h).symm⟩ fun b tk hb => wpAny_truthy_bool ?_)))) rfl)
    subst hb
    by_cases h97 : 97 ≤ kk
    · rw [decide_eq_true h97]
      refine test_last (wpAny_Constant_int (cmpI_s (o := .LtE) (P := fun b => b = decide (kk ≤ 122)) ⟨fun h => (decide_eq_true h).symm, fun h => (decide_eq_false h).symm⟩ fun b tk2 hb => wpAny_truthy_bool ?_))
      subst hb
      by_cases h122 : kk ≤ 122
      · rw [decide_eq_true h122]; exact yes _ h97 h122
      · rw [decide_eq_false h122]; exact no _ fun q => h122 q.2
    · rw [decide_eq_false h97]; exact no _ fun q => h97 q.1
noncomputable def sCap (xs : List V) (r : V) : Prop := ∃ l, xs = [.bytes l] ∧ r = .bytes (caps l) ∧ l.length ≤ 1000 ∧ ∀ i ∈ l, 0 ≤ i ∧ i < 256
theorem c_cap {g : Gl} (H : GA g) {xs : List V} {r : V} (h : sCap xs r) : Con g 1 (.ref 226) xs r := by
  obtain ⟨l, rfl, rfl, h1, h2⟩ := h
  have H' : FnK g _ 226 _ _ _ := H.f25
  refine con2 H' ["text"] [] ⟨[⟨"bytes", sBytes⟩], [], [(eCap, spCap)]⟩ 20 (gok_c (f := ⟨"bytes", sBytes⟩) ⟨by decide +kernel, by decide +kernel, .ty "bytes" H.nbytes (by decide +kernel) (by decide) fun xs r h => b_bytes h⟩ (gok_o (e := eCap) (sp := spCap) o_cap gok0)) (by decide +kernel) rfl rfl (fun ws fd h e1 e2 e3 => by obtain ⟨a, rfl⟩ := l1 h; cases fd; cases e1; cases e2; cases e3; rfl) ?_
  refine ⟨_, .head _, rfl, _, ⟨l, rfl, h1, rfl⟩, Exists.intro _ (And.intro ⟨_, rfl, rfl, fun i hi => ?_, by unfold caps; rw [List.length_map]; omega⟩ rfl)⟩
  obtain ⟨j, hj, rfl⟩ := List.mem_map.mp hi
  have := h2 j hj
  unfold cap1
  split <;> omega

noncomputable abbrev opsL : List (List Int) := [oAdd, oSub, oMul, oDiv, oMod, oPow, oUnm]
noncomputable def sOps (xs : List V) (r : V) : Prop := xs = [] ∧ r = .seq opsL
theorem c_ops {g : Gl} (H : GA g) {xs : List V} {r : V} (h : sOps xs r) : Con g 1 (.ref 195) xs r := by
  obtain ⟨rfl, rfl⟩ := h
  have H' : FnK g _ 195 _ _ _ := H.f20
  refine con2 H' [] [] (tb []) 30 gok0 (by decide +kernel) rfl rfl (fun ws fd h e1 e2 e3 => by cases (List.length_eq_zero_iff.mp h); cases fd; cases e1; cases e2; cases e3; rfl) ?_
  exact And.intro rfl rfl

/-- None or an int -/
noncomputable def ov (o : Option Int) : V := match o with
  | none => .none
  | some i => .int i
noncomputable def argL (e : Expr) : Expr := match e with
  | .BoolOp _ (.UnaryOp _ a _ :: _) _ => a
  | _ => .Constant .none 0 default
noncomputable abbrev eIsi : Expr := argL (svOf ((fbd 32)[1]?))
noncomputable def spIsi (ρ : Rho) (v : V) : Prop := ∃ i, lkp ρ "told" = some (.int i) ∧ v = .bool false
theorem o_isi {g : Gl} (H : GA g) {sc : Scope} (h1 : sc.names.lookup ("isinstance" : Str) = some .globalImplicit) (h2 : sc.names.lookup ("bool" : Str) = some .globalImplicit) : OrOk g 0 sc eIsi spIsi := by
  intro c news ρ m s v Q hc ⟨i, ei, hv⟩ hl S a k
  subst hc hv
  obtain ⟨u, hu, t, rfl⟩ := a "told" _ ei
  have ht := hl "told" (lkp_mem ei)
  show wpAny _ _ (eval (.Name "isinstance" _) c.env >>= fun fv => callWith _ fv [] (backTo _ (starEach [.Name "told" _, .Name "bool" _] c.env)) (backToKw _ (keywordEach [] c.env))) _ _ _
  refine wpAny_bind (nameX_B S.F c.X (topRead_of c.T) H.nisi (by decide +kernel : bootBuiltins "isinstance" = some (.builtin "isinstance")) (by decide) (Calls.callWith_builtin rfl (Calls.evalArgs_plain (Calls.spliced_cons (nameX_L S.F hu ?_ c.hk ht.1 ht.2)))) c.hk h1 (by decide))
  refine Calls.spliced_cons (nameX_B S.F c.X (topRead_of c.T) H.nbool (by decide +kernel : bootBuiltins "bool" = some (.type "bool")) (by decide) (Calls.spliced_nil (PySem.IsiPair.int_bool ?_)) c.hk h2 (by decide))
  exact k _ _ news s.heap _ rfl rfl .rfl S
noncomputable def sLike (xs : List V) (r : V) : Prop := ∃ p q, xs = [ov p, ov q] ∧ r = .bool (decide (p = q))
theorem c_like {g : Gl} (H : GA g) {xs : List V} {r : V} (h : sLike xs r) : Con g 1 (.ref 275) xs r := by
  obtain ⟨p, q, rfl, rfl⟩ := h
  have H' : FnK g _ 275 _ _ _ := H.f32
  refine con2 H' ["told", "due"] [] ⟨[], [], [(eIsi, spIsi)]⟩ 20 (gok_o (e := eIsi) (sp := spIsi) (o_isi H (by decide +kernel) (by decide +kernel)) gok0) (by decide +kernel) rfl rfl (fun ws fd h e1 e2 e3 => by obtain ⟨a, b, rfl⟩ := l2 h; cases fd; cases e1; cases e2; cases e3; rfl) ?_
  have t : ∀ {b : Bool}, b = decide (p = q) → Fl.ret (.bool b) = Fl.ret (.bool (decide (p = q))) := fun h => by rw [h]
  cases p with
  | none =>
    cases q with
    | none => exact t rfl
    | some j => exact t rfl
  | some i =>
    cases q with
    | none => exact t rfl
    | some j =>
      refine ⟨_, .head _, rfl, _, ⟨i, rfl, rfl⟩, And.intro (fun h => t ?_) (fun h => t ?_)⟩
      · exact (decide_eq_true (congrArg some h)).symm
      · exact (decide_eq_false fun e => h (Option.some.inj e)).symm

/-- the number that digits make -/
noncomputable def dval (b : Int) : Int → List Int → Int
  | acc, [] => acc
  | acc, d :: r => dval b (acc * b + d) r
theorem dval_app (b : Int) : ∀ (l : List Int) (acc d : Int), dval b acc (l ++ [d]) = dval b acc l * b + d
  | [], _, _ => rfl
  | x :: r, acc, d => dval_app b r (acc * b + x) d
theorem dval_ldi {b : Int} (hb : 2 ≤ b) : ∀ (k : Nat) (n : Int), 0 ≤ n → n < 2 ^ k → dval b 0 (ldi b k n).reverse = n
  | 0, n, h0, h1 => by have : (2 : Int) ^ 0 = 1 := rfl; show (0 : Int) = n; omega
  | k + 1, n, h0, h1 => by
    by_cases hn : n ≤ 0
    · rw [ldi_zero b hn]; show (0 : Int) = n; omega
    · have a := div_small hb (by omega) h1
      have e : ldi b (k + 1) n = n.fmod b :: ldi b k (n / b) := if_neg hn
      rw [e, List.reverse_cons, dval_app, dval_ldi hb k _ a.1 a.2.2, Int.fmod_eq_emod_of_nonneg _ (by omega), Int.mul_comm]
      exact Int.mul_ediv_add_emod n b
theorem dval_dgs {b n : Int} (hb : 2 ≤ b) (h0 : 0 ≤ n) (h1 : n < 2 ^ 400) : dval b 0 (dgs n b) = n := by
  unfold dgs
  split
  · show (0 : Int) * b + 0 = n; omega
  · exact dval_ldi hb 400 n h0 h1
theorem dval_nn {b : Int} (hb : 0 ≤ b) : ∀ (l : List Int) (acc : Int), 0 ≤ acc → (∀ i ∈ l, 0 ≤ i) → 0 ≤ dval b acc l
  | [], _, h, _ => h
  | d :: r, acc, h, hl => dval_nn hb r _ (by have := Int.mul_nonneg h hb; have := hl d (.head _); omega) fun i hi => hl i (.tail _ hi)
noncomputable def sLpow (xs : List V) (r : V) : Prop := ∃ a b w, xs = [.int a, .int b, .int w] ∧ r = .int (wr w (a ^ b.toNat)) ∧ 0 ≤ b ∧ b < 2 ^ 400 ∧ (-(2 ^ 400) < a ∧ a < 2 ^ 400) ∧ 1 ≤ w ∧ w ≤ 400
theorem wr_pow4 {w f x : Int} {e d : Nat} (h : wr w f = wr w (x ^ e)) : wr w (wr w (f ^ 4) * x ^ d) = wr w (x ^ (4 * e + d)) := by
  have h1 : wr w (f ^ 4) = wr w (x ^ (4 * e)) := by
    have a := wr_pow w 1 f 4
    have b := wr_pow w 1 (x ^ e) 4
    rw [h] at a
    rw [a] at b
    rw [Int.one_mul, Int.one_mul] at b
    rw [b, ← Int.pow_mul, Nat.mul_comm]
  rw [wr_mulL, ← wr_mulL, h1, wr_mulL, ← Int.pow_add]
theorem big1200 {a : Int} (h : -(2 ^ 400) < a ∧ a < 2 ^ 400) : (a * a).natAbs < Big ∧ (a * a * a).natAbs < Big := by
  have h1 : a.natAbs < 2 ^ 400 := by
    have : ((2 ^ 400 : Nat) : Int) = 2 ^ 400 := Int.natCast_pow 2 400
    omega
  have e2 : (a * a).natAbs < 2 ^ 800 := by
    rw [Int.natAbs_mul, show 2 ^ 800 = 2 ^ 400 * 2 ^ 400 from by rw [← Nat.pow_add]]
    exact Nat.mul_lt_mul_of_lt_of_le h1 (Nat.le_of_lt h1) (Nat.pow_pos (by decide))
  refine ⟨big_of 800 e2 (by decide), big_of 1200 ?_ (by decide)⟩
  rw [Int.natAbs_mul, show 2 ^ 1200 = 2 ^ 800 * 2 ^ 400 from by rw [← Nat.pow_add]]
  exact Nat.mul_lt_mul_of_lt_of_le e2 (Nat.le_of_lt h1) (Nat.pow_pos (by decide))
theorem c_lpow {g : Gl} (H : GA g) {xs : List V} {r : V} (h : sLpow xs r) : Con g 2 (.ref 254) xs r := by
  obtain ⟨a, b, w, rfl, rfl, hb0, hb1, ha, h0, h1⟩ := h
  have H' : FnK g _ 254 _ _ _ := H.f29
  refine con2 H' ["a", "b", "width"] ["found", "digit"] ⟨[⟨"_law_digits", sDigits⟩, ⟨"_law_cut", sWrap⟩], [], []⟩ 20 (gok_c (f := ⟨"_law_digits", sDigits⟩) ⟨by decide +kernel, by decide +kernel, at_fn (show FnK g _ 216 _ _ _ from H.f23) fun xs r h => ((c_digits H h).more (by decide))⟩ (gok_c (f := ⟨"_law_cut", sWrap⟩) ⟨by decide +kernel, by decide +kernel, at_fn (show FnK g _ 209 _ _ _ from H.f22) fun xs r h => ((c_cut H h).more (by decide))⟩ gok0)) (by decide +kernel) rfl rfl (fun ws fd h e1 e2 e3 => by obtain ⟨a, b, c, rfl⟩ := l3 h; cases fd; cases e1; cases e2; cases e3; rfl) ?_
  have b4 := dgs_dig (b := 4) (by decide) b
  have bb := big1200 ha
  have ba := big400 ha
  have sd : sDigits [.int b, .int 4] (.own (dgs b 4)) := ⟨b, 4, rfl, rfl, hb0, hb1, by decide, by decide⟩
  refine Exists.intro (.int 1) (And.intro rfl (Exists.intro _ (And.intro sd (Exists.intro (fun vs ρ => ∃ (ds : List Int) (f e : Int) (dv : Option V), vs = ds.map V.int ∧ ρ = ([("a", some (.int a)), ("b", some (.int b)), ("width", some (.int w)), ("found", some (.int f)), ("digit", dv)] : Rho) ∧ (∀ i ∈ ds, 0 ≤ i ∧ i < 4) ∧ (-(2 ^ 400) < f ∧ f < 2 ^ 400) ∧ 0 ≤ e ∧ dval 4 e ds = b ∧ wr w f = wr w (a ^ e.toNat) ∧ (ds = [] → wr w f = f)) (And.intro ⟨dgs b 4, 1, 0, none, rfl, rfl, b4, by decide +kernel, by decide, dval_dgs (by decide) hb0 hb1, by show wr w 1 = wr w (a ^ 0); rw [Int.pow_zero], fun h => ?_⟩ (And.intro (fun u rr ρ' hI => ?_) (fun ρ' hI => ?_)))))))
  · have : (dgs b 4).length = 0 := by rw [h]; rfl
    unfold dgs at this
    rw [List.length_reverse] at this
    split at this
    · cases this
    · rw [show ldi 4 400 b = b.fmod 4 :: ldi 4 399 (b / 4) from if_neg (by omega)] at this
      cases this
  · obtain ⟨ds, f, e, dv, hvs, rfl, hds, hf, he, hv, hw, hlast⟩ := hI
    cases ds with
    | nil => cases hvs
    | cons i ds =>
    cases hvs
    have hi := hds i (.head _)
    have bf := big400 hf
    have item : ([1, a, a * a, a * a * a] : List Int).getD i.toNat 0 = a ^ i.toNat := by
      have : i = 0 ∨ i = 1 ∨ i = 2 ∨ i = 3 := by omega
      rcases this with rfl | rfl | rfl | rfl
      · show 1 = a ^ 0; rw [Int.pow_zero]
      · show a = a ^ 1; rw [Int.pow_succ, Int.pow_zero, Int.one_mul]
      · show a * a = a ^ 2; rw [Int.pow_succ, Int.pow_succ, Int.pow_zero, Int.one_mul]
      · show a * a * a = a ^ 3; rw [Int.pow_succ, Int.pow_succ, Int.pow_succ, Int.pow_zero, Int.one_mul]
    have bi : (([1, a, a * a, a * a * a] : List Int).getD i.toNat 0).natAbs < Big := by
      have : i = 0 ∨ i = 1 ∨ i = 2 ∨ i = 3 := by omega
      rcases this with rfl | rfl | rfl | rfl
      · exact big1
      · exact ba
      · exact bb.1
      · exact bb.2
    have h4 : wr w (wr w (f ^ (4 : Int).toNat) * a ^ i.toNat) = wr w (a ^ (e * 4 + i).toNat) := by
      have := wr_pow4 (d := i.toNat) hw
      rw [show (e * 4 + i).toNat = 4 * e.toNat + i.toNat by omega]
      exact this
    have hb4 : -(2 ^ 400) < wr w (f ^ (4 : Int).toNat) ∧ wr w (f ^ (4 : Int).toNat) < 2 ^ 400 := wr_bd h1
    refine Exists.intro (.int (wr w (f ^ (4 : Int).toNat))) (And.intro (And.intro ⟨bf, by decide, by decide⟩ (Exists.intro _ (And.intro ⟨_, _, rfl, rfl, h0, h1⟩ rfl))) ?_)
    generalize wr w (f ^ (4 : Int).toNat) = F at h4 hb4 ⊢
    have key : ∃ r, sWrap [.int (F * ([1, a, a * a, a * a * a] : List Int).getD i.toNat 0), .int w] r ∧ r = .int (wr w (F * a ^ i.toNat)) := ⟨_, ⟨_, _, rfl, rfl, h0, h1⟩, congrArg (fun z => V.int (wr w (F * z))) item⟩
    refine Exists.intro (.int (wr w (F * a ^ i.toNat))) (And.intro (And.intro ⟨ba, ba⟩ (And.intro ⟨ba, ba⟩ (And.intro ⟨bb.1, ba⟩ (And.intro rfl (And.intro ⟨⟨hi.1, hi.2⟩, (by decide : (4 : Nat) ≤ 1000000)⟩ (And.intro ⟨big400 hb4, bi⟩ key)))))) ?_)
    refine ⟨ds, _, e * 4 + i, _, rfl, rfl, fun j hj => hds j (.tail _ hj), wr_bd h1, by omega, hv, ?_, fun _ => wr_wr _ _⟩
    rw [wr_wr, h4]
  · obtain ⟨ds, f, e, dv, hvs, rfl, hds, hf, he, hv, hw, hlast⟩ := hI
    have : ds = [] := by cases ds with
      | nil => rfl
      | cons => cases hvs
    subst this
    show Fl.ret (.int f) = _
    have hv' : e = b := hv
    rw [← hv', ← hw, hlast rfl]

theorem o_more {g : Gl} {d e : Nat} {sc : Scope} {ex : Expr} {sp : Rho → V → Prop} (h : e ≤ d) (k : OrOk g e sc ex sp) : OrOk g d sc ex sp := fun c news ρ m s v Q hc hs hl S a kt => k (c.less h) news ρ m s v Q hc hs hl ⟨S.F, S.N⟩ a fun v x nw h' tk hp hr hs S' => kt v x nw h' tk hp hr hs ⟨S'.F, S'.N⟩
section
variable {g : Gl} {d : Nat} {c : Cx g d} {news : List (Addr × Obj)} {m : Str → Option Value} {s : Shared} {G : Tb} {ρ : Rho} {n : Nat}
theorem pair_s (hE : SE c G n) (hl : LocOk c.cs ρ) (S : St c news m s.heap) (a : Ag c news ρ m) {ke ve : Expr} {kx vx : V} (hk : (wp G n).E ke ρ (· = kx)) (hv : (wp G n).E ve ρ (· = vx)) {rest : List (Sem Value × Sem Value)} {pos : Pos} {Q : List (Value × Value) → Shared → Prop}
    (k : ∀ kv vv news' h' tk, R c.h₀ news' kv kx → R c.h₀ news' vv vx → Sub news news' → St c news' m h' → wpAny (W g) c.A (evalPairs rest) (fun vs s3 => Q ((kv, vv) :: vs) s3) noE { s with heap := h', toks := tk }) :
    wpAny (W g) c.A (evalPairs ((eval ke c.env, do let x ← eval ve c.env; standAt pos; pure x) :: rest)) Q noE s := by
  refine evalPairs_cons (hE ke ρ _ news m s _ hk hl S a fun kv x1 nw1 h1 tk1 hx1 hr1 hs1 S1 => ?_)
  subst hx1
  refine wpAny_bind (hE ve ρ _ nw1 m _ _ hv hl S1 (a.sub hs1) fun vv x2 nw2 h2 tk2 hx2 hr2 hs2 S2 => ?_)
  subst hx2
  exact wpAny_bind (wpAny_standAt (wpAny_pure (k kv vv nw2 h2 tk2 (hr1.sub hs2) hr2 (hs1.trans hs2) S2)))
theorem disp_made {K : Type} [DecidableEq K] {knd : KeyKind g.prog g.w K} {D : Addr} {o : Obj} {vs : List (Value × Value)} {kvs : List (K × Value)} {Q : Value → Shared → Prop} (S : St c news m s.heap) (hm : (D, o) ∈ news) (hd : o.IsDictOf knd []) (hc : Carries knd vs kvs) (hn : (kvs.map (·.1)).Nodup)
    (h : ∀ h' o' l' tk, Fr c.h₀ c.L h' m → News c.h₀ c.L h' ((D, o') :: l') → (∀ p ∈ news, p.1 ≠ D → p ∈ l') → o'.IsDictOf knd kvs → Q (.ref D) { s with heap := h', toks := tk }) : KdnMade g.prog g.w knd D Q vs s := by
  obtain ⟨l', N', ha, hk⟩ := News.split1 S.N hm
  have hm' := N' _ (.head _)
  refine ⟨kvs, hc, Heap.dictOf_iff.mpr ⟨o, hm'.1, hd⟩, fun h' hmm hs => ?_⟩
  rw [merged_nil_of_nodup kvs hn] at hmm
  obtain ⟨o', ho', hd'⟩ := Heap.dictOf_iff.mp hmm
  exact h h' o' l' _ (S.F.change hs hm'.2.1 hm'.2.2) (fun p hp => (List.mem_cons.mp hp).elim (fun e => by rw [e]; exact ⟨ho', hm'.2⟩) fun hp => ⟨(hs.2 _ (ha p hp)).trans (N' p (.tail _ hp)).1, (N' p (.tail _ hp)).2⟩) hk hd'
end
theorem isB {g : Gl} {b : Array UInt8} {t : Tok} : (bytesKind g.prog g.w).is b.toList (.bytes b t) = true := beq_iff_eq.mpr rfl
theorem toL {b : Array UInt8} {l : List UInt8} (h : KBw.bInts b = l.map fun c => (c.toNat : Int)) : b.toList = l := bInts_inj.mp (h.trans (KBw.ints_list l).symm)
noncomputable def subD (e : Expr) : Expr := match e with
  | .Call _ (a :: _) _ _ => a
  | _ => .Constant .none 0 default
noncomputable def ifB (s : Option Stmt) : Option Stmt := Option.casesOn (motive := fun _ => Option Stmt) s none fun s => match s with
  | .If _ b _ _ => b[0]?
  | _ => none
noncomputable section
noncomputable abbrev eD1 : Expr := subD (svOf (ifB ((fbd 30)[1]?)))
noncomputable abbrev eD2 : Expr := svOf (ifB ((fbd 30)[3]?))
end
/-- a sum by its name -/
noncomputable def arD (op : List Int) (a b : Int) : Int := if op = oAdd then a + b else if op = oSub then a - b else a * b
noncomputable def spD1 (ρ : Rho) (v : V) : Prop := ∃ op a b, lkp ρ "op" = some (.bytes op) ∧ lkp ρ "a" = some (.int a) ∧ lkp ρ "b" = some (.int b) ∧ a.natAbs < Big ∧ b.natAbs < Big ∧ (op = oAdd ∨ op = oSub ∨ op = oMul) ∧ v = .int (arD op a b)
theorem o_d1 {g : Gl} {sc : Scope} : OrOk g 0 sc eD1 spD1 := by
  intro c news ρ m s v Q hc ⟨op, a, b, eo, ea, eb, ha, hb, hop, hv⟩ hl S ag k
  subst hc hv
  obtain ⟨hE, -, -, -, -, -⟩ := s_all (c := c) (G := tb []) gok0 8
  refine Subscript_ (kdn_eval (knd := bytesKind g.prog g.w) S.F S.N c.T.nolimit rfl rfl (List.cons_ne_nil _ _) (by decide) fun D h1 o F1 N1 hlt lo hd => ?_)
  have ag1 : Ag c ((D, o) :: news) ρ m := ag.sub fun _ h => .tail _ h
  show wpAny _ _ (evalPairs ((eval _ c.env, (do let x ← eval _ c.env; standAt _; pure x)) :: (eval _ c.env, (do let x ← eval _ c.env; standAt _; pure x)) :: (eval _ c.env, (do let x ← eval _ c.env; standAt _; pure x)) :: [])) _ _ _
  refine pair_s (s := { s with heap := h1 }) hE hl ⟨F1, N1⟩ ag1 (kx := .bytes oAdd) (vx := .int (a + b)) (by exact rfl) (by show Option.casesOn (motive := fun _ => Prop) (lkp ρ "a") _ _; rw [ea]; show Option.casesOn (motive := fun _ => Prop) (lkp ρ "b") _ _; rw [eb]; exact rfl) fun k1 v1 nw1 h1 tk1 rk1 rv1 hs1 S1 => ?_
  refine pair_s (s := { s with heap := h1, toks := tk1 }) hE hl S1 (ag1.sub hs1) (kx := .bytes oSub) (vx := .int (a - b)) (by exact rfl) (by show Option.casesOn (motive := fun _ => Prop) (lkp ρ "a") _ _; rw [ea]; show Option.casesOn (motive := fun _ => Prop) (lkp ρ "b") _ _; rw [eb]; exact rfl) fun k2 v2 nw2 h2 tk2 rk2 rv2 hs2 S2 => ?_
  refine pair_s (s := { s with heap := h2, toks := tk2 }) hE hl S2 (ag1.sub (hs1.trans hs2)) (kx := .bytes oMul) (vx := .int (a * b)) (by exact rfl) (by show Option.casesOn (motive := fun _ => Prop) (lkp ρ "a") _ _; rw [ea]; show Option.casesOn (motive := fun _ => Prop) (lkp ρ "b") _ _; rw [eb]; exact And.intro ⟨ha, hb⟩ rfl) fun k3 v3 nw3 h3 tk3 rk3 rv3 hs3 S3 => evalPairs_nil ?_
  obtain ⟨b1, t1, rfl, e1⟩ := rk1
  obtain ⟨b2, t2, rfl, e2⟩ := rk2
  obtain ⟨b3, t3, rfl, e3⟩ := rk3
  have f1 := toL (l := [97, 100, 100]) e1
  have f2 := toL (l := [115, 117, 98]) e2
  have f3 := toL (l := [109, 117, 108]) e3
  refine disp_made (s := { s with heap := h3, toks := tk3 }) (kvs := [(b1.toList, v1), (b2.toList, v2), (b3.toList, v3)]) S3 (hs3 _ (hs2 _ (hs1 _ (.head _)))) hd ⟨isB, rfl, isB, rfl, isB, rfl, trivial⟩ ?_ fun h4 o4 l4 tk4 F4 N4 hk4 hd4 => ?_
  · show [b1.toList, b2.toList, b3.toList].Nodup
    rw [f1, f2, f3]; decide
  obtain ⟨u, hu, b0, t0, rfl, e0⟩ := ag "op" _ eo
  have hlo := hl "op" (lkp_mem eo)
  refine nameX_L (s := { s with heap := h4, toks := tk4 }) F4 hu ?_ c.hk hlo.1 hlo.2
  have hsub : Sub news l4 := fun p hp => hk4 p (hs3 p (hs2 p (hs1 p (.tail _ hp)))) (Nat.ne_of_lt (hlt p hp))
  obtain ⟨y1, rfl⟩ := rv1
  obtain ⟨y2, rfl⟩ := rv2
  obtain ⟨y3, rfl⟩ := rv3
  have key : ∃ y, valueAt [(b1.toList, Value.int (a + b) y1), (b2.toList, Value.int (a - b) y2), (b3.toList, Value.int (a * b) y3)] b0.toList = some (.int (arD op a b) y) := by
    rw [f1, f2, f3]
    rcases hop with rfl | rfl | rfl
    · rw [toL (l := [97, 100, 100]) e0]; exact ⟨y1, rfl⟩
    · rw [toL (l := [115, 117, 98]) e0]; exact ⟨y2, rfl⟩
    · rw [toL (l := [109, 117, 108]) e0]; exact ⟨y3, rfl⟩
  obtain ⟨y, hy⟩ := key
  have hD : h4.DictOf (bytesKind g.prog g.w) D _ := kda_dict (s := { s with heap := h4, toks := tk4 }) N4 (.head _) hd4
  refine subscriptTail_builtin_flat (s := { s with heap := h4, toks := tk4 }) hD.typeIs slot_dict_getitem.lookup (wpAny_getItem_of isB hD.mapOf hy ⟨fun _ e => (nomatch e), ?_⟩) rfl
  exact k _ _ l4 h4 _ rfl ⟨y, rfl⟩ hsub ⟨F4, fun p hp => N4 p (.tail _ hp)⟩

noncomputable def gtD (a b : Int) : V := if a = 0 then .none else if a = 1 then .int 1 else if a = -1 then .int (if b.fmod 2 = 0 then 1 else -1) else .int 0
noncomputable def spD2 (ρ : Rho) (v : V) : Prop := ∃ a b, lkp ρ "a" = some (.int a) ∧ lkp ρ "b" = some (.int b) ∧ v = gtD a b
theorem mcall_eqD {ks : List (Option Expr)} {vs : List Expr} {dp p1 p2 : Pos} {nm : Str} {args : List Expr} {env : Env} (hf : methodCallForm (args.length + 0) (backTo p2 (starEach args env)) [] = true) (hp : (p1.endLine == p2.line) = true) :
    eval (.Call (.Attribute (.Dict ks vs dp) nm p1) args [] p2) env = (do
      let ov ← eval (.Dict ks vs dp) env
      standAt p1.atName
      let (f, first) ← holding [ov] (getMethod ov nm (do return (← importBound (.Dict ks vs dp) env).getD true))
      callWith p2 f first (backTo p2 (starEach args env)) (backToKw p2 (keywordEach [] env))) := by
  rw [arm_eval_Call]
  have e1 : attributeBase (.Dict ks vs dp) nm env (eval (.Dict ks vs dp) env) = eval (.Dict ks vs dp) env := rfl
  have e2 : backToKw p2 (keywordEach [] env) = [] := rfl
  have e3 : methodCallPos true (.Dict ks vs dp) env p1 p2 = pure p2 := by
    unfold methodCallPos
    rw [if_pos (by rw [hp]; rfl)]
  rw [e1, e2]
  unfold methodCall
  rw [show args.length + ([] : List Keyword).length = args.length + 0 from rfl, hf, e3]
  simp only [pure_bind]
  rfl
theorem o_d2 {g : Gl} {sc : Scope} : OrOk g 0 sc eD2 spD2 := by
  intro c news ρ m s v Q hc ⟨a, b, ea, eb, hv⟩ hl S ag k
  subst hc hv
  obtain ⟨hE, -, -, -, -, -⟩ := s_all (c := c) (G := tb []) gok0 10
  show wpAny _ _ (eval (.Call (.Attribute (.Dict _ _ _) _ _) [.Name _ _, .Constant (.int 0) _ _] [] _) c.env) _ _ _
  refine methodCall_KW (kdn_eval (knd := PySem.intKind g.prog g.w) S.F S.N c.T.nolimit rfl rfl (List.cons_ne_nil _ _) (by decide) fun D h1 o F1 N1 hlt lo hd => ?_) (mcall_eqD (by rw [plain_star (e := .Name _ _) rfl, plain_star (e := .Constant _ _ _) rfl]; rfl) (by decide))
  have ag1 : Ag c ((D, o) :: news) ρ m := ag.sub fun _ h => .tail _ h
  show wpAny _ _ (evalPairs ((eval _ c.env, (do let x ← eval _ c.env; standAt _; pure x)) :: (eval _ c.env, (do let x ← eval _ c.env; standAt _; pure x)) :: (eval _ c.env, (do let x ← eval _ c.env; standAt _; pure x)) :: [])) _ _ _
  refine pair_s (s := { s with heap := h1 }) hE hl ⟨F1, N1⟩ ag1 (kx := .int 0) (vx := .none) (by exact rfl) (by exact rfl) fun k1 v1 nw1 h1 tk1 rk1 rv1 hs1 S1 => ?_
  refine pair_s (s := { s with heap := h1, toks := tk1 }) hE hl S1 (ag1.sub hs1) (kx := .int 1) (vx := .int 1) (by exact rfl) (by exact rfl) fun k2 v2 nw2 h2 tk2 rk2 rv2 hs2 S2 => ?_
  refine pair_s (s := { s with heap := h2, toks := tk2 }) hE hl S2 (ag1.sub (hs1.trans hs2)) (kx := .int (-1)) (vx := .int (if b.fmod 2 = 0 then 1 else -1)) (by exact rfl) (by show Option.casesOn (motive := fun _ => Prop) (lkp ρ "b") _ _; rw [eb]; exact ⟨by decide, And.intro (fun h => congrArg V.int (if_pos h).symm) (fun h => congrArg V.int (if_neg h).symm)⟩) fun k3 v3 nw3 h3 tk3 rk3 rv3 hs3 S3 => evalPairs_nil ?_
  obtain ⟨t1, rfl⟩ := rk1
  obtain ⟨t2, rfl⟩ := rk2
  obtain ⟨t3, rfl⟩ := rk3
  cases rv1
  obtain ⟨y2, rfl⟩ := rv2
  obtain ⟨y3, rfl⟩ := rv3
  have iI : ∀ (k : Int) (t : Tok), (PySem.intKind g.prog g.w).is k (.int k t) = true := fun k t => intKind_is _ _ _ _
  refine disp_made (s := { s with heap := h3, toks := tk3 }) (kvs := [((0 : Int), Value.none), (1, Value.int 1 y2), (-1, Value.int (if b.fmod 2 = 0 then 1 else -1) y3)]) S3 (hs3 _ (hs2 _ (hs1 _ (.head _)))) hd ⟨iI _ _, rfl, iI _ _, rfl, iI _ _, rfl, trivial⟩ (by show [(0 : Int), 1, -1].Nodup; decide) fun h4 o4 l4 tk4 F4 N4 hk4 hd4 => ?_
  have hsub : Sub news l4 := fun p hp => hk4 p (hs3 p (hs2 p (hs1 p (.tail _ hp)))) (Nat.ne_of_lt (hlt p hp))
  refine kdg_method (s := { s with heap := h4, toks := tk4 }) N4 (.head _) hd4 ?_
  obtain ⟨u, hu, ta, rfl⟩ := ag "a" _ ea
  have hla := hl "a" (lkp_mem ea)
  refine Calls.callWith_builtin rfl (Calls.evalArgs_plain (Calls.spliced_cons (nameX_L (s := { s with heap := h4, toks := tk4 }) F4 hu ?_ c.hk hla.1 hla.2)))
  rw [plain_star (e := .Constant (.int 0) _ _) (r := []) (env := c.env) rfl]
  refine Calls.spliced_cons (wpAny_Constant_int (k := 0) (pos := default) (Calls.spliced_nil ?_))
  have St4 : St c l4 m h4 := ⟨F4, fun p hp => N4 p (.tail _ hp)⟩
  refine kdg_get2 (s := { s with heap := h4, toks := tk4 + 1 }) N4 (.head _) hd4 lo (iI a ta) _ rfl ?_
  have fin : ∀ (x : V) (w : Value), x = gtD a b → R c.h₀ l4 w x → Q w { s with heap := h4, toks := tk4 + 1 + 1 } := fun x w e r => k w x l4 h4 _ e r hsub St4
  by_cases h0 : a = 0
  · subst h0; exact fin .none _ rfl rfl
  by_cases h1 : a = 1
  · subst h1; exact fin (.int 1) _ rfl ⟨y2, rfl⟩
  by_cases h2 : a = -1
  · subst h2; exact fin (.int (if b.fmod 2 = 0 then 1 else -1)) _ rfl ⟨y3, rfl⟩
  have hn : valueAt [((0 : Int), Value.none), (1, Value.int 1 y2), (-1, Value.int (if b.fmod 2 = 0 then 1 else -1) y3)] a = none := by
    simp [valueAt, Ne.symm h0, Ne.symm h1, Ne.symm h2]
  rw [hn]
  exact fin (.int 0) _ (by unfold gtD; rw [if_neg h0, if_neg h1, if_neg h2]) ⟨_, rfl⟩
/-- what an operation's answer is due to be -/
noncomputable def dn (op : List Int) (a b w : Int) : Option Int :=
  if op = oUnm then some (wr w (-a)) else if op = oAdd ∨ op = oSub ∨ op = oMul then some (wr w (arD op a b))
  else if op = oPow then (if 0 ≤ b then some (wr w (a ^ b.toNat)) else if a = 0 then none else if a = 1 then some 1 else if a = -1 then some (if b.fmod 2 = 0 then 1 else -1) else some 0)
  else if b = 0 then none else if op = oDiv then some (wr w (if 0 < a * b then ((a.natAbs : Int) - (a.natAbs : Int) % (b.natAbs : Int)) / (b.natAbs : Int) else -(((a.natAbs : Int) - (a.natAbs : Int) % (b.natAbs : Int)) / (b.natAbs : Int))))
  else some (if (if 0 < a then (a.natAbs : Int) % (b.natAbs : Int) else -((a.natAbs : Int) % (b.natAbs : Int))) * b < 0 then (if 0 < a then (a.natAbs : Int) % (b.natAbs : Int) else -((a.natAbs : Int) % (b.natAbs : Int))) + b else (if 0 < a then (a.natAbs : Int) % (b.natAbs : Int) else -((a.natAbs : Int) % (b.natAbs : Int))))
noncomputable def sDone (xs : List V) (r : V) : Prop := ∃ op a b w, xs = [.bytes op, .int a, .int b, .int w] ∧ r = ov (dn op a b w) ∧ op ∈ opsL ∧ (-(2 ^ 400) < a ∧ a < 2 ^ 400) ∧ (-(2 ^ 400) < b ∧ b < 2 ^ 400) ∧ 1 ≤ w ∧ w ≤ 400
theorem ov_fine (o : Option Int) : (ov o).fine = true := by cases o <;> rfl
theorem abs_eq (a : Int) : (if a < 0 then -a else a) = (a.natAbs : Int) := by split <;> omega
theorem bigAbs {n : Int} (h : n.natAbs < Big) : ((n.natAbs : Int)).natAbs < Big := by rw [Int.natAbs_natCast]; exact h
theorem mem3 {x a b c : List Int} : x ∈ [a, b, c] ↔ (x = a ∨ x = b ∨ x = c) := by simp
theorem c_done {g : Gl} (H : GA g) {xs : List V} {r : V} (h : sDone xs r) : Con g 3 (.ref 261) xs r := by
  obtain ⟨op, a, b, w, rfl, rfl, hop, ha, hb, h0, h1⟩ := h
  have H' : FnK g _ 261 _ _ _ := H.f30
  refine con2 H' ["op", "a", "b", "width"] ["rest", "many"] ⟨[⟨"abs", sAbs⟩, ⟨"_law_cut", sWrap⟩, ⟨"_law_power", sLpow⟩], [], [(eD1, spD1), (eD2, spD2)]⟩ 24 (gok_c (f := ⟨"abs", sAbs⟩) ⟨by decide +kernel, by decide +kernel, .bi "abs" H.nabs (by decide +kernel) (by decide) fun xs r h => b_abs h⟩ (gok_c (f := ⟨"_law_cut", sWrap⟩) ⟨by decide +kernel, by decide +kernel, at_fn (show FnK g _ 209 _ _ _ from H.f22) fun xs r h => ((c_cut H h).more (by decide))⟩ (gok_c (f := ⟨"_law_power", sLpow⟩) ⟨by decide +kernel, by decide +kernel, at_fn (show FnK g _ 254 _ _ _ from H.f29) fun xs r h => (c_lpow H h)⟩ (gok_o (e := eD1) (sp := spD1) (o_more (by decide) o_d1) (gok_o (e := eD2) (sp := spD2) (o_more (by decide) o_d2) gok0))))) (by decide +kernel) rfl (ov_fine _) (fun ws fd h e1 e2 e3 => by obtain ⟨a, b, c, d, rfl⟩ := l4 h; cases fd; cases e1; cases e2; cases e3; rfl) ?_
  have Ba := big400 ha
  have Bb := big400 hb
  have cut : ∀ {n : Int} {o : Option Int}, o = some (wr w n) → ∃ r, sWrap [.int n, .int w] r ∧ Fl.ret r = Fl.ret (ov o) := fun h => by rw [h]; exact ⟨_, ⟨_, _, rfl, rfl, h0, h1⟩, rfl⟩
  refine And.intro (fun (h : op = oUnm) => cut (if_pos h)) (fun (n1 : ¬ op = oUnm) => And.intro (fun (h : op ∈ [oAdd, oSub, oMul]) => ?_) (fun (n2 : ¬ op ∈ [oAdd, oSub, oMul]) => ?_))
  · rw [mem3] at h
    exact ⟨_, .head _, rfl, _, ⟨op, a, b, rfl, rfl, rfl, Ba, Bb, h, rfl⟩, cut (by unfold dn; rw [if_neg n1, if_pos h])⟩
  have m2 : ¬ (op = oAdd ∨ op = oSub ∨ op = oMul) := fun q => n2 (mem3.mpr q)
  have hd : dn op a b w = dn op a b w := rfl
  conv at hd => rhs; unfold dn; rw [if_neg n1, if_neg m2]
  refine And.intro (fun (h : op = oPow) => And.intro (fun (hb0 : 0 ≤ b) => ?_) (fun (hb0 : ¬ 0 ≤ b) => And.intro (fun _ => ?_) (fun q => absurd h q))) (fun (n3 : ¬ op = oPow) => And.intro (fun q => absurd q n3) (fun _ => ?_))
  · exact ⟨_, ⟨a, b, w, rfl, rfl, hb0, hb.2, ha, h0, h1⟩, by rw [hd, if_pos h, if_pos hb0]; rfl⟩
  · refine ⟨_, .tail _ (.head _), rfl, _, ⟨a, b, rfl, rfl, rfl⟩, congrArg Fl.ret ?_⟩
    rw [hd, if_pos h, if_neg hb0]
    unfold gtD
    split
    · rfl
    · split
      · rfl
      · split <;> rfl
  rw [if_neg n3] at hd
  refine And.intro (fun (hz : b = 0) => by rw [hd, if_pos hz]; rfl) (fun (hz : b ≠ 0) => ?_)
  rw [if_neg hz] at hd
  have hab : ((a.natAbs : Int)).fmod (b.natAbs : Int) = (a.natAbs : Int) % (b.natAbs : Int) := Int.fmod_eq_emod_of_nonneg _ (by omega)
  have Bab := bigAbs Bb
  refine Exists.intro (.int ((a.natAbs : Int) % (b.natAbs : Int))) (And.intro (Exists.intro _ (And.intro ⟨a, rfl, congrArg V.int (abs_eq a).symm⟩ (Exists.intro _ (And.intro ⟨b, rfl, congrArg V.int (abs_eq b).symm⟩ (And.intro ?_ (congrArg V.int hab)))))) ?_)
  · omega
  generalize hR : (a.natAbs : Int) % (b.natAbs : Int) = R at *
  have hRb : 0 ≤ R ∧ R < (b.natAbs : Int) := by rw [← hR]; exact ⟨Int.emod_nonneg _ (by omega), Int.emod_lt_of_pos _ (by omega)⟩
  refine And.intro (fun (h : op = oDiv) => ?_) (fun (n4 : ¬ op = oDiv) => ?_)
  · rw [if_pos h] at hd
    refine Exists.intro (.int (((a.natAbs : Int) - R) / (b.natAbs : Int))) (And.intro (Exists.intro _ (And.intro ⟨a, rfl, congrArg V.int (abs_eq a).symm⟩ (Exists.intro _ (And.intro ⟨b, rfl, congrArg V.int (abs_eq b).symm⟩ (And.intro ⟨by omega, Bab⟩ rfl))))) ?_)
    refine And.intro ⟨Ba, Bb⟩ (And.intro (fun hp => cut ?_) (fun hp => cut ?_))
    · rw [hd, if_pos hp]
    · rw [hd, if_neg hp]
  · rw [if_neg n4] at hd
    refine Exists.intro (.int (if 0 < a then R else -R)) (And.intro (And.intro (fun hp => congrArg V.int (if_pos hp).symm) (fun hp => congrArg V.int (if_neg hp).symm)) ?_)
    generalize hS : (if 0 < a then R else -R) = S at *
    have BS : S.natAbs < Big := by
      have : S.natAbs < b.natAbs := by rw [← hS]; split <;> omega
      omega
    refine And.intro ⟨BS, Bb⟩ (And.intro (fun hp => ?_) (fun hp => ?_))
    · rw [hd, if_pos hp]; rfl
    · rw [hd, if_neg hp]; rfl

section
open Builtin Builtin.ObjectAttr
section
variable {prog : Program} {w : World} {A : Around} {E : Value → Shared → Prop} {h : Heap} {gs : Array GenState} {dr : Drawn} {t : Nat} {os : OsState}
variable {nm q : Str} {C N x : Addr} {bs bm : List Value} {sn : List Str} {sub : List Value} {ab : Bool} {col : Option Bool} {dd : Option Addr} {k0 k1 k2 k3 k5 : Option Value} {B newId sa owner : String} {mN : Str → Option Value} {name : Str} {v : Value}
/-- the first store into an instance that has no dict yet: the dict is new -/
theorem ex_set0 {o : Obj} {Q : Unit → Shared → Prop} (SF : StoreFacts B bm sa owner) (hC : h.get? C = some (excClassObj nm q C N bs bm true sn sub ab col dd k0 k1 k2 k3 k5 newId)) (hn : h.Ns N mN) (hns : mN "__setattr__" = none) (hna : mN name = none)
    (hB : typeLookup (.type B) name = pure none) (hx : h.get? x = some o) (hc : o.cls = .ref C) (hnc : ∀ c, o.data ≠ .cls c) (hdn : o.dict = none) (hfr : o.isFreed = false)
    (hq : ∀ h' tk', (∀ b ob, b ≠ x → h.get? b = some ob → h'.get? b = some ob) → h'.get? x = some { cls := o.cls, dict := some h.objs.size, data := o.data, slots := o.slots } → h'.Ns1 h.objs.size (fun y => if y = name then some v else none) → Q () ⟨h', gs, dr, tk', os⟩) :
    wpAny (model prog w) A (setAttr (.ref x) name v) Q E ⟨h, gs, dr, t, os⟩ := by
  have f3 := SF.slot.bind (.ref x)
  unfold setAttr callSpecial? specialOf
  repeat (any_goals (first | assumption | (with_reducible refine wpAny_loadPart_at hx ?_; rw [hc]) | (with_reducible refine wpAny_typeLookup_exc hC hn SF.mro SF.slot.lookup ?_; rw [hns]) | wp_step))
  refine codeAny_call_builtin SF.slot.plain SF.entry (wpAny_check_sa SF hC hx hc ?_)
  have hpass := SF.passes (.ref x)
  unfold Builtin.«object.__setattr__»
  repeat (first | rw [refuse_eq] | (rw [refuseLoop_ref, hpass]) | (with_reducible refine wpAny_loadPart_at hx ?_; rw [hc]) | with_reducible refine wpAny_mroOf_exc hC ?_ | (with_reducible refine wpAny_typeLookup_exc hC hn SF.mro hB ?_; rw [hna]) | wp_step)
  rw [hdn, if_neg (by simp [typeHasDict])]
  split
  · rename_i hcd; cases hcd
  split
  · rename_i c hcd; exact absurd hcd (hnc c)
  have hx₁ : (h.push { cls := .type "dict", data := .dict #[] }).get? x = some o := Heap.get?_push_of_some _ hx
  have hxs : x ≠ h.objs.size := Nat.ne_of_lt (Heap.lt_size hx)
  refine wpAny_bind (wpAny_alloc' (wpAny_bind (wpAny_update' hx₁ (wpAny_pure ?_))))
  have hgd : ((h.push { cls := .type "dict", data := .dict #[] }).update x fun o => { cls := o.cls, dict := some h.objs.size, data := o.data, slots := o.slots }).get? h.objs.size = some { cls := .type "dict", data := .dict #[] } :=
    (Heap.get?_update_ne _ _ _ _ hxs.symm).trans (Heap.get?_push_at rfl rfl)
  have hnd : ((h.push { cls := .type "dict", data := .dict #[] }).update x fun o => { cls := o.cls, dict := some h.objs.size, data := o.data, slots := o.slots }).Ns h.objs.size (fun _ => none) :=
    ⟨_, #[], _, hgd, rfl, fun e he => absurd he (by simp), fun _ => rfl⟩
  show wpAny _ _ (storeInDict h.objs.size _ name v) _ _ _
  unfold storeInDict newKeyGuard
  refine wpAny_bind (wpAny_pure (wpAny_bind (wpAny_nsSet1 (Heap.Ns1.of_empty hnd) fun h' hn' hs => ?_)))
  obtain ⟨oD, esD, epD, hoD, hdD, hcD⟩ := hn'.count (Within.cons name v Within.nil)
  refine wpAny_bind (wpAny_lookBehind hoD (by rw [hdD]; exact pastItsLine_dict (Nat.le_trans hcD (by rw [List.length_cons, List.length_nil, sizeLine_eq]; omega))) ?_)
  repeat (any_goals (first | assumption | wp_step))
  have hx2 := Heap.get?_update_self (fun o => { cls := o.cls, dict := some h.objs.size, data := o.data, slots := o.slots }) hx₁ (by
    obtain ⟨oc, od, odt, osl⟩ := o
    cases odt <;> first | rfl | exact hfr)
  exact hq h' _ (fun b ob hbx hb => (hs.2 b (Nat.ne_of_lt (Heap.lt_size hb))).trans ((Heap.get?_update_ne _ _ _ _ hbx).trans (Heap.get?_push_of_some _ hb))) ((hs.2 x hxs).trans hx2) hn'
end

theorem ns_some {K : Frag} {h : Heap} {N : Addr} {mg : Str → Option Value} {n : Str} {v : Value} (X : K.In h) (G : h.Ns N mg) (e : nsIn K N n = some (some v)) : mg n = some v := by
  obtain ⟨o, es, ep, ho, hd, _, hf⟩ := G
  unfold nsIn at e
  split at e
  · rename_i q
    have z := X _ _ q
    rw [ho] at z
    cases z
    cases hd
    split at e
    · rename_i he
      cases e
      rw [← hf]
      unfold nsFind findBy
      rw [← Array.find?_toList, he]
      rfl
    · split at e <;> cases e
  · cases e
noncomputable abbrev luaA : Addr := 67
noncomputable abbrev luaO : Obj := excClassObj "LuaError" "LuaError" 67 66 [.type "Exception"] [.type "Exception", .type "BaseException", .type "object"] true [] [] false none none (some (.ref 51)) none (some (.str "LuaError" 262)) (some (.str "LuaError" 270)) (some (.bool true)) "Exception.__new__"
/-- what the written part says of the exception -/
structure GX (g : Gl) : Prop where
  cls : g.K.lookup 67 = some luaO
  ok : nsOkIn g.K 66 = true
  init : nsIn g.K 66 "__init__" = some (some (.ref 64))
  sa : nsIn g.K 66 "__setattr__" = some none
  va : nsIn g.K 66 "value" = some none
  tr : nsIn g.K 66 "trace" = some none
  nam : nsIn g.K mainGlobals "LuaError" = some (some (.ref 67))
  kts : ktsIn g.K 67 "BaseException" = true
  fn : ∃ oc od doc pm an cdv ct osl, g.K.lookup 64 = some ⟨oc, od, .func (fnOf "__init__" "LuaError.__init__" (mps 3 0) (mbd 3 0) (msc 3 0) .none .none doc pm an cdv ct), osl⟩ ∧ codeIn g.K cdv "LuaError.__init__" = true
  ty : typeIn g.K (.ref 64) = some (.type "function")
  keep : keepIn g.K (.ref 67) = true
  fi : findIn g.K (.ref 67) "__init__" = some (some (.ref 64))
theorem tl_value : typeLookup (.type "Exception") "value" = pure none := by rw [typeLookup_type, builtinLookup_eq_fast]; kernel_rfl
theorem tl_trace : typeLookup (.type "Exception") "trace" = pure none := by rw [typeLookup_type, builtinLookup_eq_fast]; kernel_rfl
section
variable {g : Gl} {d : Nat} {c : Cx g d} {news : List (Addr × Obj)} {m : Str → Option Value} {s : Shared}
/-- an exception just made -/
noncomputable abbrev exO (t : Addr) (dx : Option Addr) : Obj := { cls := .ref 67, dict := dx, data := .fields #[.ref t, .none, .none, .none, .bool false, .none] }
noncomputable abbrev tpO (vs : List Value) : Obj := { cls := .type "tuple", data := .seq vs.toArray }
theorem lua_init (hX : GX g) {e t : Addr} {v : Value} {vs : List Value} {Q : Value → Shared → Prop} (S : St c ((e, exO t none) :: (t, tpO vs) :: news) m s.heap) (hne : e ≠ t) (hoff : ∀ p ∈ news, p.1 ≠ e)
    (k : ∀ D h' tk, St c ((e, exO t (some D)) :: (t, tpO vs) :: news) m h' → Q .none { s with heap := h', toks := tk }) : wpAny (W g) c.A (call (.ref 64) [.ref e, v]) Q noE s := by
  obtain ⟨oc, od, doc, pm, an, cdv, ct, osl, ho, hcd⟩ := hX.fn
  have hlk : (msc 3 0).names.lookup ("self" : Str) = some .local ∧ (msc 3 0).names.lookup ("value" : Str) = some .local := by decide +kernel
  refine wpAny_call (code_def (binds := [("self", .ref e), ("value", v)]) c.B S.F c.X S.N c.T rfl rfl c.hk ho hcd (Nat.lt_of_le_of_lt (Nat.le_add_right _ _) c.hd) (BindsTo.of_eq rfl) (fun y hy => by rcases List.mem_cons.mp hy with rfl | hy; exact hlk.1; rw [List.mem_singleton.mp hy]; exact hlk.2) (fun g' L' h1 FG F N B X T => ?_) (by decide +kernel) (by decide +kernel) (by decide +kernel) (by decide +kernel))
  have hC := F.keep _ _ (X _ _ hX.cls)
  have hNs : h1.Ns 66 (h1.nsMap 66) := .of_isNs (isNs_of_in (X.keeps F.keep) hX.ok)
  have hsa : h1.nsMap 66 "__setattr__" = none := ns_none_of (X.keeps F.keep) hNs hX.sa
  have hva : h1.nsMap 66 "value" = none := ns_none_of (X.keeps F.keep) hNs hX.va
  have he := N _ (.head _)
  show wpAny _ _ (execs (.Assign [.Attribute (.Name "self" _) "value" _] (.Name "value" _) _ :: .Assign [.Attribute (.Name "self" _) "trace" _] (.List [] _) _ :: []) _) _ _ _
  have hl' : L' ≠ e := fun q => he.2.1 q.symm
  have hbs : ∀ x, List.lookup x ([("self", Value.ref e), ("value", v)] : List (Str × Value)).reverse = if x = ("value" : Str) then some v else if x = ("self" : Str) then some (.ref e) else none := fun x => by
    show List.lookup x [("value", v), ("self", Value.ref e)] = _
    rw [List.lookup_cons]
    by_cases h1 : x = ("value" : Str)
    · rw [if_pos h1, beq_iff_eq.mpr h1]
    · rw [if_neg h1, beq_eq_false_iff_ne.mpr h1, List.lookup_cons]
      by_cases h2 : x = ("self" : Str)
      · rw [if_pos h2, beq_iff_eq.mpr h2]
      · rw [if_neg h2, beq_eq_false_iff_ne.mpr h2]; rfl
  have hv : List.lookup ("value" : Str) ([("self", Value.ref e), ("value", v)] : List (Str × Value)).reverse = some v := (hbs _).trans (if_pos rfl)
  have hs : List.lookup ("self" : Str) ([("self", Value.ref e), ("value", v)] : List (Str × Value)).reverse = some (.ref e) := (hbs _).trans ((if_neg (by decide)).trans (if_pos rfl))
  obtain ⟨mm, hmm⟩ : ∃ mm : Str → Option Value, mm = fun y => List.lookup y ([("self", Value.ref e), ("value", v)] : List (Str × Value)).reverse := ⟨_, rfl⟩
  rw [← hmm] at F
  replace hv : mm "value" = some v := by rw [hmm]; exact hv
  replace hs : mm "self" = some (.ref e) := by rw [hmm]; exact hs
  have h67 : (67 : Addr) ≠ e := fun q => by
    have := he.2.2
    rw [← q, X _ _ hX.cls] at this
    cases this
  refine wpAny_execs_cons (plainObj_wpAny_Assign_Attribute (ld F hv (ld F hs ?_ rfl hlk.1 (by decide)) rfl hlk.2 (by decide)) rfl)
  refine ex_set0 (h := h1) (o := exO t none) PySem.F.store_Exception hC hNs hsa hva tl_value he.1 rfl (fun _ e => (nomatch e)) rfl rfl fun h2 tk2 hk2 hx2 hn2 => ?_
  have F2 : Fr g' L' h2 mm := ⟨F.ns.at' fun o q => hk2 L' o hl' q, fun b o q => hk2 b o (fun z => by rw [z, he.2.2] at q; cases q) (F.keep b o q), F.above⟩
  obtain ⟨oD, hoD⟩ : ∃ oD, h2.get? h1.objs.size = some oD := let ⟨o, _, _, q, _⟩ := hn2; ⟨o, q⟩
  have lt1 : ∀ {b : Addr} {o : Obj}, h1.get? b = some o → b ≠ h1.objs.size := fun q => Nat.ne_of_lt (Heap.lt_size q)
  have gD : g'.get? h1.objs.size = none := by
    cases q : g'.get? h1.objs.size with
    | none => rfl
    | some o => exact absurd rfl (lt1 (F.keep _ _ q))
  have N2 : News g' L' h2 ((e, exO t (some h1.objs.size)) :: (h1.objs.size, oD) :: (t, tpO vs) :: news) := fun p hp => by
    rcases List.mem_cons.mp hp with rfl | hp
    · exact ⟨hx2, he.2⟩
    · rcases List.mem_cons.mp hp with rfl | hp
      · exact ⟨hoD, Ne.symm (Nat.ne_of_lt F.ns.lt), gD⟩
      · exact ⟨hk2 _ _ (by rcases List.mem_cons.mp hp with rfl | hp; exact Ne.symm hne; exact hoff p hp) (N p (.tail _ hp)).1, (N p (.tail _ hp)).2⟩
  refine wpAny_execs_cons (plainObj_wpAny_Assign_Attribute (List_ (Calls.spliced_nil (newList_K F2 N2 (fun Dl h3 F3 N3 hlt3 => ld F3 hs ?_ rfl hlk.1 (by decide)) (Nat.zero_le _)))) rfl)
  have he3 := (N3 _ (.tail _ (.head _))).1
  have hD3 := (N3 _ (.tail _ (.tail _ (.head _)))).1
  have hNs3 : h3.Ns 66 (h3.nsMap 66) := .of_isNs (isNs_of_in (X.keeps F3.keep) hX.ok)
  refine store_attr (h := h3) (mA := fun y => if y = "value" then some v else none) PySem.F.store_Exception (F3.keep _ _ (X _ _ hX.cls)) hNs3 (ns_none_of (X.keeps F3.keep) hNs3 hX.sa) (ns_none_of (X.keeps F3.keep) hNs3 hX.tr) tl_trace (Ne.symm h67) ⟨_, he3, rfl, fun _ e => (nomatch e), .inr ⟨h1.objs.size, rfl, Ne.symm (lt1 he.1), hn2.at fun o q => by rw [hoD] at q; cases q; exact hD3⟩⟩ fun h4 tk4 _ hk4 hx4 => ?_
  have keep4 : ∀ b o, b ≠ e → b ≠ h1.objs.size → h3.get? b = some o → h4.get? b = some o := fun b o q1 q2 q3 => hk4 b o q1 (fun o₀ dx z1 z2 => by rw [he3] at z1; cases z1; cases z2; exact q2) q3
  have F4 : Fr g' L' h4 mm := ⟨F3.ns.at' fun o q => keep4 L' o hl' (Nat.ne_of_lt F.ns.lt) q, fun b o q => keep4 b o (fun z => by rw [z, he.2.2] at q; cases q) (fun z => by rw [z, gD] at q; cases q) (F3.keep b o q), F.above⟩
  have he4 : h4.get? e = some (exO t (some h1.objs.size)) := by
    obtain ⟨⟨c1, c2, c3, c4⟩, q1, q2, q3, q4, q5⟩ := hx4 _ he3
    dsimp only at q2 q3 q4 q5
    rw [q1, q2, q3, q4, q5 _ rfl]
  have N4 : News g' L' h4 ((e, exO t (some h1.objs.size)) :: (t, tpO vs) :: news) := fun p hp => by
    rcases List.mem_cons.mp hp with rfl | hp
    · exact ⟨he4, he.2⟩
    · exact ⟨keep4 _ _ (by rcases List.mem_cons.mp hp with rfl | hp; exact Ne.symm hne; exact hoff p hp) (lt1 (N p (.tail _ hp)).1) (N3 p (.tail _ (.tail _ (.tail _ hp)))).1, (N p (.tail _ hp)).2⟩
  exact wpAny_execs_nil (leaveK_ F4 N4 fun F5 N5 => k _ h4 _ ⟨F5, N5⟩)

noncomputable def Cx.made (c : Cx g (d + 1)) : Cx g d := { c with dp := c.dp + 1, un := c.un + 1, hd := by have := c.hd; omega, hu := by have := c.hu; omega }
theorem under_eq (c : Cx g (d + 1)) (args : List Value) : c.A.under (Code.builtin "type.__call__" { pos := .ref 67 :: args }) = c.made.A := by
  have h1 : (Code.builtin "type.__call__" { pos := .ref 67 :: args }).weight = 1 := by
    have : (Code.builtin "type.__call__" { pos := .ref 67 :: args }).isGuard = false := by show guardIds.contains "type.__call__" = false; decide +kernel
    unfold Code.weight
    rw [this]
    rfl
  have h2 : (Code.builtin "type.__call__" { pos := .ref 67 :: args }).guards = [] := by
    unfold Code.guards
    rw [if_neg (by show ¬ guardIds.contains "type.__call__" = true; decide +kernel)]
  unfold Around.under
  rw [h1, h2]
  rfl
theorem lua_new {c : Cx g (d + 1)} (hX : GX g) {v : Value} {Q : Value → Shared → Prop} (S : St c news m s.heap)
    (k : ∀ e t D h' tk, St c ((e, exO t (some D)) :: (t, tpO [v]) :: news) m h' → e ≠ t → (∀ p ∈ news, p.1 ≠ e ∧ p.1 ≠ t) → Q (.ref e) { s with heap := h', toks := tk }) : wpAny (W g) c.A (call (.ref 67) [v]) Q noE s := by
  have hC := S.F.keep _ _ (c.X _ _ hX.cls)
  obtain ⟨h, gs, dr, tk, os⟩ := s
  have F := PySem.F.excBase_Exception
  dsimp only at hC S k
  have f1 := tc_lookup
  have f2 := tc_bind (.ref 67)
  have hT : (⟨h, gs, dr, tk, os⟩ : Shared).TypeIs (.ref 67) "type" := ⟨_, hC, rfl⟩
  have hC₁ := Heap.get?_push_of_some { cls := .ref 67, data := .fields #[.ref h.objs.size, .none, .none, .none, .bool false, .none] } (Heap.get?_push_of_some { cls := .type "tuple", data := .seq [v].toArray } hC)
  have hget : ((h.push { cls := .type "tuple", data := .seq [v].toArray }).push
      { cls := .ref 67, data := .fields #[.ref h.objs.size, .none, .none, .none, .bool false, .none] }).get? (h.objs.size + 1) = some
      { cls := .ref 67, data := .fields #[.ref h.objs.size, .none, .none, .none, .bool false, .none] } := by heap_get
  have htup : ((h.push { cls := .type "tuple", data := .seq [v].toArray }).push
      { cls := .ref 67, data := .fields #[.ref h.objs.size, .none, .none, .none, .bool false, .none] }).get? h.objs.size = some (tpO [v]) := Heap.get?_push_of_some _ (Heap.get?_push_at rfl rfl)
  have hcC : (Value.ref 67 :: [Value.type "Exception", .type "BaseException", .type "object"]).contains (.ref 67) = true := by simp
  have hk : ∀ b o, h.get? b = some o → ((h.push { cls := .type "tuple", data := .seq [v].toArray }).push { cls := .ref 67, data := .fields #[.ref h.objs.size, .none, .none, .none, .bool false, .none] }).get? b = some o := fun b o e => Heap.get?_push_of_some _ (Heap.get?_push_of_some _ e)
  have fr : ∀ b, h.objs.size ≤ b → c.h₀.get? b = none := fun b hb => by
    cases q : c.h₀.get? b with
    | none => rfl
    | some o => exact absurd (Heap.lt_size (S.F.keep _ _ q)) (Nat.not_lt.mpr hb)
  have lt : ∀ p ∈ news, p.1 < h.objs.size := fun p hp => Heap.lt_size (S.N p hp).1
  have S2 : St c.made ((h.objs.size + 1, exO h.objs.size none) :: (h.objs.size, tpO [v]) :: news) m ((h.push { cls := .type "tuple", data := .seq [v].toArray }).push { cls := .ref 67, data := .fields #[.ref h.objs.size, .none, .none, .none, .bool false, .none] }) :=
    ⟨S.F.keeps hk, fun p hp => by
      rcases List.mem_cons.mp hp with rfl | hp
      · exact ⟨hget, Ne.symm (Nat.ne_of_lt (Nat.lt_succ_of_lt S.F.ns.lt)), fr _ (Nat.le_succ _)⟩
      · rcases List.mem_cons.mp hp with rfl | hp
        · exact ⟨htup, Ne.symm (Nat.ne_of_lt S.F.ns.lt), fr _ (Nat.le_refl _)⟩
        · exact ⟨hk _ _ (S.N p hp).1, (S.N p hp).2⟩⟩
  generalize hH : ((h.push { cls := .type "tuple", data := .seq [v].toArray }).push { cls := .ref 67, data := .fields #[.ref h.objs.size, .none, .none, .none, .bool false, .none] }) = H2 at hC₁ hget htup S2
  refine wpAny_call (codeAny_of_tree ?_)
  show wpAny _ _ (callAny (.ref 67) _) _ _ _
  repeat (any_goals (first | assumption | with_reducible refine wpAny_loadPart_at hC ?_ | wp_step))
  refine ⟨rfl, ?_⟩
  refine codeAny_call_builtin_at (Code.quiet_builtin _ (by decide +kernel)) entry_typeCall (wpAny_check_type_call_sub hC ?_)
  repeat (first | with_reducible refine wpAny_loadPart_at hC ?_ | with_reducible refine wpAny_madeBy_exc hC ?_ | wp_step)
  refine codeAny_call_builtin_code (Code.quiet_builtin _ F.quiet) (wpAny_check_new_sub F hC ?_)
  refine codeAny_exc_new_sub F hC ?_ (Nat.le_of_ble_eq_true rfl)
  show wpAny _ _ _ _ _ ⟨((h.push { cls := .type "tuple", data := .seq [v].toArray }).push { cls := .ref 67, data := .fields #[.ref h.objs.size, .none, .none, .none, .bool false, .none] }), gs, dr, tk, os⟩
  rw [hH]
  unfold isInstance
  repeat (first | with_reducible refine wpAny_loadPart_at hget ?_ | wp_step)
  show wpAny _ _ (isSubtype (.ref 67) (.ref 67)) _ _ _
  refine wpAny_isSubtype_exc hC₁ ?_
  rw [hcC]
  show wpAny _ _ (holding _ _ >>= _) _ _ _
  have hu := under_eq c [v]
  have I : InstAt H2 (h.objs.size + 1) (exO h.objs.size none) 67 none := ⟨hget, rfl, rfl, trivial⟩
  refine wpAny_bind (wpAny_holding (special_fn (s := ⟨H2, gs, dr, tk, os⟩) (c.X.keeps S2.F.keep) I hX.fi hX.ty ?_))
  rw [show c.A.under (Code.builtin "type.__call__" { pos := [Value.ref 67] ++ { pos := [v] : Args }.pos }) = c.made.A from hu]
  refine wpAny_mono (lua_init (c := c.made) hX (s := ⟨H2, gs, dr, tk, os⟩) (Q := fun r s' => r = .none ∧ ∃ D h' tk, s' = ⟨h', gs, dr, tk, os⟩ ∧ St c.made ((h.objs.size + 1, exO h.objs.size (some D)) :: (h.objs.size, tpO [v]) :: news) m h') S2 (Nat.succ_ne_self _) (fun p hp => Nat.ne_of_lt (Nat.lt_succ_of_lt (lt p hp))) fun D h' tk S3 => ⟨rfl, D, h', tk, rfl, S3⟩) (fun r s' q => ?_) fun _ _ e => e.elim
  obtain ⟨rfl, D, h', tk', rfl, S3⟩ := q
  exact wpAny_pure (k _ _ D h' tk' ⟨S3.F, S3.N⟩ (Nat.succ_ne_self _) fun p hp => ⟨Nat.ne_of_lt (Nat.lt_succ_of_lt (lt p hp)), Nat.ne_of_lt (lt p hp)⟩)

theorem lua_stmt {env : Env} {x : Sem Value} {A : Around} {E : Value → Shared → Prop} {Q : Flow → Shared → Prop} (hh : A.handled = none)
    (h : wpAny (W g) A x (fun v s₁ => ∃ e t D, v = .ref e ∧ s₁.heap.get? 67 = some luaO ∧ s₁.heap.get? e = some (exO t (some D)) ∧ E (.ref e) s₁) E s) : wpAny (W g) A (raiseStmt env (some x) none) Q E s := by
  have hcB : (Value.ref 67 :: [Value.type "Exception", .type "BaseException", .type "object"]).contains (.type "BaseException") = true := by decide +kernel
  unfold raiseStmt
  refine wpAny_bind (wpAny_mono h (fun v s₁ h₁ => ?_) fun _ _ x => x)
  obtain ⟨e, t, D, rfl, hC, he, hE⟩ := h₁
  obtain ⟨hp, gs, dr, tk, os⟩ := s₁
  repeat (first | with_reducible refine wpAny_loadPart_at he ?_ | with_reducible refine wpAny_loadPart_at hC ?_ | (with_reducible refine wpAny_isSubtype_exc hC ?_; rw [hcB]) | wp_step)
  exact wpAny_raiseNew_none hh hE
theorem lua_raise {c : Cx g (d + 1)} (hX : GX g) {np ap cpos pos : Pos} {kk : Nat} {l : List UInt8} {E : Value → Shared → Prop} {Q : Flow → Shared → Prop} (S : St c news m s.heap) (hgl : c.cs.names.lookup ("LuaError" : Str) = some .globalImplicit)
    (k : ∀ e t D v h' tk, St c ((e, exO t (some D)) :: (t, tpO [v]) :: news) m h' → e ≠ t → (∀ p ∈ news, p.1 ≠ e ∧ p.1 ≠ t) → E (.ref e) { s with heap := h', toks := tk }) :
    wpAny (W g) c.A (exec (.Raise (some (.Call (.Name "LuaError" np) [.Constant (.bytes l) kk ap] [] cpos)) none pos) c.env) Q E s := by
  rw [arm_exec_Raise]
  refine wpAny_bind (wpAny_standAt (lua_stmt rfl ?_))
  show wpAny _ _ (eval (.Call (.Name "LuaError" np) [.Constant (.bytes l) kk ap] [] cpos) c.env >>= fun v => standAt _ >>= fun _ => pure v) _ _ _
  refine wpAny_bind (wpAny_mono (Q := fun v s' => ∃ e t D u h' tk, v = .ref e ∧ s' = { s with heap := h', toks := tk } ∧ St c ((e, exO t (some D)) :: (t, tpO [u]) :: news) m h' ∧ e ≠ t ∧ (∀ p ∈ news, p.1 ≠ e ∧ p.1 ≠ t)) (E := noE) ?_ (fun v s' q => ?_) fun _ _ e => e.elim)
  · show wpAny _ _ (eval (.Name "LuaError" np) c.env >>= fun fv => callWith cpos fv [] (backTo cpos (starEach [.Constant (.bytes l) kk ap] c.env)) (backToKw cpos (keywordEach [] c.env))) _ _ _
    refine wpAny_bind (nameX_K S.F c.X (topRead_of c.T) hX.nam (callWith_K c.X hX.keep ?_ (plain_star (r := []) (env := c.env) rfl) (plain_any rfl)) c.hk hgl (by decide))
    rw [plain_star (r := []) (env := c.env) rfl]
    refine Calls.spliced_cons (Constant_bytes (pos := ap) (k := kk) (Calls.spliced_nil ?_))
    exact ⟨c.X.keeps S.F.keep, lua_new hX S fun e t D h' tk S' h1 h2 => ⟨e, t, D, _, h', tk, rfl, rfl, S', h1, h2⟩⟩
  · obtain ⟨e, t, D, u, h', tk, rfl, rfl, S', h1, h2⟩ := q
    exact wpAny_bind (wpAny_standAt (wpAny_pure ⟨e, t, D, rfl, S'.F.keep _ _ (c.X _ _ hX.cls), (S'.N _ (.head _)).1, k e t D u h' tk S' h1 h2⟩))
/-- the exception leaves the frame where it was made -/
theorem leave_raiseD {M : Model} {A : Around} {E : Value → Shared → Prop} {s' : Shared} {base gg : Heap} {outer : List Env} {L a e t D : Addr} {name : Str} {scope : Scope} {cd : Value} {vs : List Value} {Q : Unit → Shared → Prop} (K : Below A base outer gg) (F : Fr gg L s'.heap m) (N : News gg L s'.heap ((e, exO t (some D)) :: (t, tpO vs) :: news)) (hne : e ≠ t) (off : ∀ p ∈ news, p.1 ≠ e ∧ p.1 ≠ t)
    (hQ : ∀ h', RaisedS base gg outer e (.ref 67) t vs news h' → gg.UpToSlots h' → Q () { s' with heap := h' }) (hk : scope.kind = .function) :
    wpAny M (A.deeper (envOf name scope L a cd)) (leaving (envOf name scope L a cd) (.ref e)) Q E s' := by
  have K' := K.push (name := name) (a := a) (cd := cd) F hk
  obtain ⟨as, has⟩ : ∃ as, as = e :: t :: (envOf name scope L a cd :: outer).filterMap (·.frame) := ⟨_, rfl⟩
  have hin : ∀ env ∈ (envOf name scope L a cd :: outer), ∀ b, env.frame = some b → b ∈ as := fun env he b hb => has ▸ .tail _ (.tail _ (List.mem_filterMap.mpr ⟨env, he, hb⟩))
  have he := N _ (.head _)
  have ht := N _ (.tail _ (.head _))
  have mem3 : ∀ {b : Addr}, b ∈ as → b = e ∨ b = t ∨ b ∈ (envOf name scope L a cd :: outer).filterMap (·.frame) := fun hm => by
    rw [has] at hm
    rcases List.mem_cons.mp hm with z | hm
    · exact .inl z
    · exact (List.mem_cons.mp hm).elim (fun z => .inr (.inl z)) fun z => .inr (.inr z)
  have st : base.StaysIn (hideAll s'.heap as) := fun b o q => hideAll_get _ (K'.stays b o q) fun hm => by
    rcases mem3 hm with z | z | z
    · rw [z] at q; exact absurd (fresh_of_stays K.stays he.2.2) (by rw [q]; exact fun z => nomatch z)
    · rw [z] at q; exact absurd (fresh_of_stays K.stays ht.2.2) (by rw [q]; exact fun z => nomatch z)
    · rw [(K'.frames.mem z).1] at q; cases q
  have sg : ∀ b o, gg.get? b = some o → b ∉ outer.filterMap (·.frame) → (hideAll s'.heap as).get? b = some o := fun b o q nm => hideAll_get _ (F.keep b o q) fun hm => by
    rcases mem3 hm with z | z | z
    · rw [z, he.2.2] at q; cases q
    · rw [z, ht.2.2] at q; cases q
    · rcases kts_mem z with z | z
      · rw [z, kts_self F] at q; cases q
      · exact nm z
  have hl : ∀ q ∈ news, (hideAll s'.heap as).get? q.1 = some q.2 ∧ gg.get? q.1 = none ∧ base.get? q.1 = none := fun q hq => by
    have nq := N q (.tail _ (.tail _ hq))
    refine ⟨hideAll_get _ nq.1 fun hm => ?_, nq.2.2, fresh_of_stays K.stays nq.2.2⟩
    rcases mem3 hm with z | z | z
    · exact (off q hq).1 z
    · exact (off q hq).2 z
    · obtain ⟨env, hv, hf⟩ := List.mem_filterMap.mp z
      rcases List.mem_cons.mp hv with rfl | hv
      · exact nq.2.1 (Option.some.inj hf).symm
      · obtain ⟨o, ho, _⟩ := (K.frames.mem (List.mem_filterMap.mpr ⟨env, hv, hf⟩)).2
        rw [nq.2.2] at ho; cases ho
  have hen : (hideAll s'.heap as).get? e = none := hideAll_none _ (has ▸ .head _)
  have htn : (hideAll s'.heap as).get? t = none := hideAll_none _ (has ▸ .tail _ (.head _))
  refine wpAny_leaving_firstW (base := hideAll s'.heap as) (a0 := .ref t) K'.stack (funFrames_hide K'.frames hin) rfl he.1 (fun b o q => of_hideAll _ q) hen rfl rfl rfl fun h' hL => ?_
  obtain ⟨k1, ⟨_, _, k2⟩, k3, k4⟩ := hL
  exact hQ h' ⟨⟨_, st, sg, hl, ⟨k1, hen, k2, k3⟩, htn⟩, Heap.TupAt.of_slots ⟨_, _, ht.1, rfl, rfl⟩ k4⟩ ((Heap.UpToSlots.of_keeps F.keep).trans k4)
end

end
section
variable {g : Gl} {d : Nat} {c : Cx g d} {news : List (Addr × Obj)} {m : Str → Option Value} {s : Shared} {G : Tb} {ρ : Rho} {n : Nat} {E : Value → Shared → Prop}
/-- a call that raises the program's own exception -/
noncomputable def ConX (g : Gl) (d : Nat) (fv : Value) (xs : List V) : Prop :=
  ∀ (c : Cx g d) (news : List (Addr × Obj)) (m : Str → Option Value) (s : Shared) (ws : List Value) (Q : Value → Shared → Prop) (E : Value → Shared → Prop), St c news m s.heap → RL c.h₀ news xs ws →
    (∀ gg e t vs nw h' tk, Fr c.h₀ c.L gg m → RaisedS c.base gg (c.env :: c.outer) e (.ref 67) t vs nw h' → gg.UpToSlots h' → Sub news nw → E (.ref e) { s with heap := h', toks := tk }) → wpAny (W g) c.A (call fv ws) Q E s
theorem noE_E {Q : Value → Shared → Prop} {A : Around} {M : Model} {x : Sem Value} (h : wpAny M A x Q noE s) : wpAny M A x Q E s := wpAny_mono h (fun _ _ z => z) fun _ _ e => e.elim
theorem x_if (hB : SB c G n) (hl : LocOk c.cs ρ) (S : St c news m s.heap) (a : Ag c news ρ m) {t : Expr} {x y rest : List Stmt} {pos : Pos} {b : Bool} {Q : Flow → Shared → Prop} (ht : (wp G n).B t ρ (· = b))
    (k : ∀ nw h' tk, Sub news nw → St c nw m h' → wpAny (W g) c.A (execs (if b = true then x else y) c.env) (fun f s' => match f with | .next => wpAny (W g) c.A (execs rest c.env) Q E s' | f => Q f s') E { s with heap := h', toks := tk }) :
    wpAny (W g) c.A (execs (.If t x y pos :: rest) c.env) Q E s :=
  wpAny_execs_cons (wpAny_If (wpAny_mono (hB t ρ _ news m s (fun b' s' => b' = b ∧ ∃ nw h' tk, s' = { s with heap := h', toks := tk } ∧ Sub news nw ∧ St c nw m h') ht hl S a fun b' nw h' tk hb hs S' => ⟨hb, nw, h', tk, rfl, hs, S'⟩) (fun b' s' q => by
    obtain ⟨rfl, nw, h', tk, rfl, hs, S'⟩ := q
    have z := k nw h' tk hs S'
    cases b' <;> exact z) fun _ _ e => e.elim))
theorem x_no (hB : SB c G n) (hl : LocOk c.cs ρ) (S : St c news m s.heap) (a : Ag c news ρ m) {t : Expr} {x rest : List Stmt} {pos : Pos} {Q : Flow → Shared → Prop} (ht : (wp G n).B t ρ (· = false))
    (k : ∀ nw h' tk, Sub news nw → St c nw m h' → wpAny (W g) c.A (execs rest c.env) Q E { s with heap := h', toks := tk }) : wpAny (W g) c.A (execs (.If t x [] pos :: rest) c.env) Q E s :=
  x_if hB hl S a ht fun nw h' tk hs S' => wpAny_execs_nil (k nw h' tk hs S')
theorem x_call (hL : SL c G n) (hl : LocOk c.cs ρ) (S : St c news m s.heap) (a : Ag c news ρ m) {f : Str} {pf pos : Pos} {e0 : Expr} {args : List Expr} {ad : Addr} {xs : List V} {Q : Value → Shared → Prop} (hn : nsIn g.K mainGlobals f = some (some (.ref ad))) (hk : keepIn g.K (.ref ad) = true)
    (hgl : c.cs.names.lookup f = some .globalImplicit) (hdb : (f == ("__debug__" : Str)) = false) (hst : (e0 :: args).all argE = true) (hp : (wp G n).L (e0 :: args) ρ (· = xs))
    (k : ∀ ws nw h' tk, RL c.h₀ nw xs ws → Sub news nw → St c nw m h' → wpAny (W g) c.A (call (.ref ad) ws) Q E { s with heap := h', toks := tk }) : wpAny (W g) c.A (eval (.Call (.Name f pf) (e0 :: args) [] pos) c.env) Q E s := by
  show wpAny _ _ (eval (.Name f pf) c.env >>= fun fv => callWith pos fv [] (backTo pos (starEach (e0 :: args) c.env)) (backToKw pos (keywordEach [] c.env))) _ _ _
  refine wpAny_bind (nameX_K S.F c.X (topRead_of c.T) hn (callWith_K c.X hk (wpAny_mono (hL _ ρ _ news m s (fun ws s₁ => g.K.In s₁.heap ∧ wpAny (W g) c.A (call (.ref ad) ([] ++ ws)) Q E s₁) pos hst hp hl S a fun ws xs' nw h' tk hx hr hs S' => ?_) (fun _ _ z => z) fun _ _ e => e.elim) (plain_star (r := args) (env := c.env) (Bool.and_eq_true_iff.mp hst).1) (plain_any (Bool.and_eq_true_iff.mp hst).2)) c.hk hgl hdb)
  subst hx
  exact ⟨c.X.keeps S'.F.keep, k ws nw h' tk hr hs S'⟩

/-- a def whose body raises -/
theorem conX_raw {g : Gl} {d : Nat} {x : Str} {ad : Addr} {ps : Arguments} {body : List Stmt} {sc : Scope} (H : FnK g x ad ps body sc) (ns loc : List Str) {xs : List V} (hc : chk sc ns loc = true) (hlen : xs.length = ns.length)
    (hbind : ∀ ws fd, ws.length = ns.length → fd.params = ps → fd.defaults = .none → fd.kwdefaults = .none → bindArgs fd ⟨ws, []⟩ = pure (ns.zip ws))
    (hp : ∀ (c : Cx g d) news m s Q E, c.cs = sc → LocOk sc (mkRho ns xs loc) → St c news m s.heap → Ag c news (mkRho ns xs loc) m →
      (∀ e s', (∃ gg t vs nw h' tk m', s' = { s with heap := h', toks := tk } ∧ Sub news nw ∧ ((∃ D, gg = h' ∧ St c ((e, exO t (some D)) :: (t, tpO vs) :: nw) m' h' ∧ e ≠ t ∧ ∀ p ∈ nw, p.1 ≠ e ∧ p.1 ≠ t) ∨ (Fr c.h₀ c.L gg m' ∧ RaisedS c.base gg (c.env :: c.outer) e (.ref 67) t vs nw h' ∧ gg.UpToSlots h'))) → E (.ref e) s') → wpAny (W g) c.A (execs body c.env) Q E s) : ConX g (d + 1) (.ref ad) xs := by
  intro c news m s ws Q E S hrl k
  obtain ⟨oc, od, doc, pm, an, cdv, ct, osl, ho, hcd⟩ := H.look
  have ⟨h1, h2⟩ := Bool.and_eq_true_iff.mp hc
  have ⟨ht, h2⟩ := Bool.and_eq_true_iff.mp h2
  have ⟨h2, h3⟩ := Bool.and_eq_true_iff.mp h2
  have ⟨h3, h4⟩ := Bool.and_eq_true_iff.mp h3
  have ⟨h4, h5⟩ := Bool.and_eq_true_iff.mp h4
  have ⟨h5, h6⟩ := Bool.and_eq_true_iff.mp h5
  have hloc : ∀ y ∈ ns ++ loc, sc.names.lookup y = some .local ∧ (y == ("__debug__" : Str)) = false := fun y hy => by
    have := Bool.and_eq_true_iff.mp (List.all_eq_true.mp h1 y hy)
    exact ⟨beq_iff_eq.mp this.1, (Bool.not_eq_true' _).mp this.2⟩
  refine wpAny_call (code_def c.B S.F c.X S.N c.T rfl rfl c.hk ho hcd (Nat.lt_of_le_of_lt (Nat.le_add_right _ _) c.hd) (BindsTo.of_eq (hbind ws _ (hrl.len.trans hlen) rfl rfl rfl)) (fun y hy => (hloc y.1 (List.mem_append_left _ (List.of_mem_zip hy).1)).1) (fun g' L' h' FG' F' N' B' X' T' => ?_) ((Bool.not_eq_true' _).mp h3) ((Bool.not_eq_true' _).mp h4) (beq_iff_eq.mp h5) fun x hx e => by
    have := List.all_eq_true.mp h6 x hx
    rw [e] at this
    exact Bool.noConfusion this)
  let c' : Cx g d := { dp := c.dp + 1, un := c.un + 3, gd := c.gd, cn := x, cs := sc, L := L', a := ad, ccd := cdv, cl := [], outer := envX c.cn c.cs c.L c.a c.ccd c.cl :: c.outer, A₀ := c.A, base := c.base, h₀ := g', B := B', X := X', T := T', hk := beq_iff_eq.mp h5, hd := by have := c.hd; omega, hu := by have := c.hu; omega, ht := fun e => Bool.noConfusion (((Bool.not_eq_true' _).mp ht).symm.trans e), XB := c.XB, TB := c.TB }
  refine hp c' news _ _ _ _ rfl (fun y hy => hloc y (mkRho_keys ▸ hy)) ⟨F', N'⟩ (fun y v e => ?_) fun e s' q => ?_
  · obtain ⟨u, e1, e2⟩ := mkRho_ag hrl e
    exact ⟨u, look_zip (of_decide_eq_true h2) e1, R.mono FG'.keep (fun _ h => h) e2⟩
  · obtain ⟨gg, t, vs, nw, h2, tk2, m2, rfl, hs, hq⟩ := q
    rcases hq with ⟨D, rfl, S2, hne, off⟩ | ⟨F2, R2, hsm⟩
    · exact leave_raiseD B' S2.F S2.N hne off (fun h3 R3 hsm3 => k g' e t vs nw h3 tk2 FG' R3 hsm3 hs) (beq_iff_eq.mp h5)
    · exact leave_onS B' F2 R2 hsm fun h3 R3 _ hsm3 => k g' e t vs nw h3 tk2 FG' R3 hsm3 hs
end

theorem x_power {g : Gl} (H : GA g) (hX : GX g) {b w : Int} (hb : b < 0) : ConX g 2 (.ref 111) [.int 0, .int b, .int w] := by
  have H' : FnK g _ 111 _ _ _ := H.f7
  refine conX_raw H' ["a", "b", "width"] ["found", "base"] (by decide +kernel) rfl (fun ws fd h e1 e2 e3 => by obtain ⟨a, b, c, rfl⟩ := l3 h; cases fd; cases e1; cases e2; cases e3; rfl) fun c news m s Q E hc hl S a k => ?_
  rw [← hc] at hl
  obtain ⟨hE, -, hL, -, hB, -⟩ := s_all (c := c) (G := tb []) gok0 8
  refine x_if hB hl S a (b := true) (And.intro (fun _ => rfl) (fun q => absurd hb q)) fun nw h' tk hs S' => ?_
  rw [if_pos rfl]
  refine x_if hB hl S' (a.sub hs) (b := true) (And.intro (fun _ => rfl) (fun q => absurd rfl q)) fun nw2 h2 tk2 hs2 S2 => ?_
  rw [if_pos rfl]
  refine wpAny_execs_cons (lua_raise hX S2 (by rw [hc]; decide +kernel) fun e t D v h3 tk3 S3 hne off => ?_)
  exact k e _ ⟨_, t, [v], nw2, h3, tk3, m, rfl, hs.trans hs2, .inl ⟨D, rfl, S3, hne, off⟩⟩
theorem x_arith {g : Gl} (H : GA g) (hX : GX g) (kp : keepIn g.K (.ref 111) = true) {op : List Int} {a b w : Int} (h : ((op = oDiv ∨ op = oMod) ∧ b = 0) ∨ (op = oPow ∧ b < 0 ∧ a = 0)) : ConX g 3 (.ref 118) [.bytes op, .int a, .int b, .lim w] := by
  have H' : FnK g _ 118 _ _ _ := H.f8
  refine conX_raw H' ["op", "a", "b", "limits"] ["width"] (by decide +kernel) rfl (fun ws fd h e1 e2 e3 => by obtain ⟨a, b, c, d, rfl⟩ := l4 h; cases fd; cases e1; cases e2; cases e3; rfl) fun c news m s Q E hc hl S ag k => ?_
  rw [← hc] at hl
  obtain ⟨hE, -, hL, -, hB, -⟩ := s_all (c := c) (G := tb []) gok0 10
  have n1 : op ≠ oAdd := by rcases h with ⟨rfl | rfl, _⟩ | ⟨rfl, _⟩ <;> decide
  have n2 : op ≠ oSub := by rcases h with ⟨rfl | rfl, _⟩ | ⟨rfl, _⟩ <;> decide
  have n3 : op ≠ oMul := by rcases h with ⟨rfl | rfl, _⟩ | ⟨rfl, _⟩ <;> decide
  have n4 : op ≠ oUnm := by rcases h with ⟨rfl | rfl, _⟩ | ⟨rfl, _⟩ <;> decide
  refine wpAny_execs_cons (wpAny_Assign_Name (noE_E (hE _ ([("op", some (.bytes op)), ("a", some (.int a)), ("b", some (.int b)), ("limits", some (.lim w)), ("width", none)] : Rho) (· = .int w) news m s _ ⟨rfl, rfl⟩ hl S ag fun u x nw1 h1 tk1 hx hr hs1 S1 => ?_)) rfl)
  subst hx
  refine storeX_L S1.F S1.N (fun h2 F2 N2 => ?_) c.hk (hl "width" (.tail _ (.tail _ (.tail _ (.tail _ (.head _)))))).1
  have S2 : St c nw1 _ h2 := ⟨F2, N2⟩
  have a2 := ag_put (ag.sub hs1) hr (x := "width")
  have hl2 : LocOk c.cs ([("op", some (.bytes op)), ("a", some (.int a)), ("b", some (.int b)), ("limits", some (.lim w)), ("width", some (.int w))] : Rho) := hl.same rfl
  refine x_no hB hl2 S2 a2 (And.intro (fun q => absurd q n1) (fun _ => rfl)) fun nw3 h3 tk3 hs3 S3 => ?_
  refine x_no hB hl2 S3 (a2.sub hs3) (And.intro (fun q => absurd q n2) (fun _ => rfl)) fun nw4 h4 tk4 hs4 S4 => ?_
  refine x_no hB hl2 S4 (a2.sub (hs3.trans hs4)) (And.intro (fun q => absurd q n3) (fun _ => rfl)) fun nw5 h5 tk5 hs5 S5 => ?_
  refine x_no hB hl2 S5 (a2.sub ((hs3.trans hs4).trans hs5)) (And.intro (fun q => absurd q n4) (fun _ => rfl)) fun nw6 h6 tk6 hs6 S6 => ?_
  have hs := ((hs3.trans hs4).trans hs5).trans hs6
  rcases h with ⟨hop, hb⟩ | ⟨hop, hb, ha⟩
  · have n5 : op ≠ oPow := by rcases hop with rfl | rfl <;> decide
    refine x_no hB hl2 S6 (a2.sub hs) (And.intro (fun q => absurd q n5) (fun _ => rfl)) fun nw7 h7 tk7 hs7 S7 => ?_
    refine x_no hB hl2 S7 (a2.sub (hs.trans hs7)) (And.intro (fun q => And.intro (fun q2 => absurd hop (fun z => z.elim q q2)) (fun _ => rfl)) (fun _ => rfl)) fun nw8 h8 tk8 hs8 S8 => ?_
    refine x_if hB hl2 S8 (a2.sub ((hs.trans hs7).trans hs8)) (b := true) (And.intro (fun _ => rfl) (fun q => absurd hb q)) fun nw9 h9 tk9 hs9 S9 => ?_
    rw [if_pos rfl]
    refine wpAny_execs_cons (lua_raise hX S9 (by rw [hc]; decide +kernel) fun e t D v h3 tk3 S3 hne off => ?_)
    exact k e _ ⟨_, t, [v], nw9, h3, tk3, _, rfl, hs1.trans (((hs.trans hs7).trans hs8).trans hs9), .inl ⟨D, rfl, S3, hne, off⟩⟩
  · subst ha
    refine x_if hB hl2 S6 (a2.sub hs) (b := true) (And.intro (fun _ => rfl) (fun q => absurd hop q)) fun nw7 h7 tk7 hs7 S7 => ?_
    rw [if_pos rfl]
    have HP : FnK g _ 111 _ _ _ := H.f7
    refine wpAny_execs_cons (wpAny_Return_some (x_call hL hl2 S7 (a2.sub (hs.trans hs7)) (xs := [.int 0, .int b, .int w]) HP.name kp (by rw [hc]; decide +kernel) (by decide) rfl rfl fun ws nw8 h8 tk8 hr8 hs8 S8 => ?_))
    refine x_power H hX hb c nw8 _ { s with heap := h8, toks := tk8 } ws _ _ S8 hr8 fun gg e t vs nw h9 tk9 F9 R9 hsm hs9 => ?_
    exact k e _ ⟨gg, t, vs, nw, h9, tk9, _, rfl, hs1.trans (((hs.trans hs7).trans hs8).trans hs9), .inr ⟨F9, R9, hsm⟩⟩

noncomputable section
noncomputable def forB (s : Option Stmt) : List Stmt := Option.casesOn (motive := fun _ => List Stmt) s [] fun s => match s with
  | .For _ _ b _ _ => b
  | _ => []
noncomputable def ifT (s : Option Stmt) : Expr := Option.casesOn (motive := fun _ => Expr) s (.Constant .none 0 default) fun s => match s with
  | .If t _ _ _ => t
  | _ => .Constant .none 0 default
noncomputable def unA (e : Expr) : Expr := match e with
  | .UnaryOp _ a _ => a
  | _ => .Constant .none 0 default
noncomputable abbrev eTri : Expr := arg0 (unA (ifT ((forB ((forB ((fbd 37)[2]?))[7]?))[0]?)))
end
/-- what an operation tells, when it's tried -/
noncomputable def trv (op : List Int) (a b w : Int) : Option Int := if op = oPow ∧ b < 0 ∧ a = 0 then none else if (op = oDiv ∨ op = oMod) ∧ b = 0 then none else some (arv op a b w)
noncomputable def spTri (ρ : Rho) (v : V) : Prop := ∃ op a b w, lkp ρ "op" = some (.bytes op) ∧ lkp ρ "here" = some (.int a) ∧ lkp ρ "there" = some (.int b) ∧ lkp ρ "limits" = some (.lim w) ∧ op ∈ opsL ∧ (-(2 ^ 400) < a ∧ a < 2 ^ 400) ∧ (-(2 ^ 400) < b ∧ b < 2 ^ 400) ∧ 1 ≤ w ∧ w ≤ 400 ∧ v = ov (trv op a b w)
theorem o_tri {g : Gl} (H : GA g) (hX : GX g) (kp : keepIn g.K (.ref 111) = true) (ka : keepIn g.K (.ref 118) = true) (kt0 : keepIn g.K (.ref 268) = true) {sc : Scope} (hturn : (sc.names.lookup ("turn" : Str) == some NameKind.local) = true) (hg : sc.names.lookup ("_law_tried" : Str) = some .globalImplicit) : OrOk g 4 sc eTri spTri := by
  intro c news ρ m s v Q hc ⟨op, a, b, w, e1, e2, e3, e4, hop, ha, hb, h0, hw, hv⟩ hl S ag k
  subst hc hv
  obtain ⟨ho, hcl⟩ := c.ht hturn
  obtain ⟨dp, un, gd, cn, cs, L, ad, ccd, cl, outer, A₀, base, h₀, B, X, T, hk, hd, hu, ht, XB, TB⟩ := c
  dsimp only at ho hcl
  subst ho hcl
  obtain ⟨c, hcc⟩ : ∃ c : Cx g 4, c = ⟨dp, un, gd, cn, cs, L, ad, ccd, [], [], A₀, base, h₀, B, X, T, hk, hd, hu, ht, XB, TB⟩ := ⟨_, rfl⟩
  have HT : FnK g _ 268 _ _ _ := H.f31
  obtain ⟨oc, od, doc, pm, an, cdv, ct, osl, ho, hcd⟩ := HT.look
  rw [← hcc] at S ag k
  have hl : LocOk c.cs ρ := by rw [hcc]; exact hl
  have hg : c.cs.names.lookup ("_law_tried" : Str) = some .globalImplicit := by rw [hcc]; exact hg
  have goalA : wpAny (W g) c.A (eval eTri c.env) Q noE s := ?_
  · rw [hcc] at goalA; exact goalA
  obtain ⟨hE, -, hL, -, hB, -⟩ := s_all (c := c) (G := tb []) gok0 8
  refine x_call hL hl S ag (xs := [.bytes op, .int a, .int b, .lim w]) HT.name kt0 hg (by decide) rfl ?_ fun ws nw h' tk hr hs S' => ?_
  · show Option.casesOn (motive := fun _ => Prop) (lkp ρ "op") _ _; rw [e1]
    show Option.casesOn (motive := fun _ => Prop) (lkp ρ "here") _ _; rw [e2]
    show Option.casesOn (motive := fun _ => Prop) (lkp ρ "there") _ _; rw [e3]
    show Option.casesOn (motive := fun _ => Prop) (lkp ρ "limits") _ _; rw [e4]
    exact rfl
  obtain ⟨w1, w2, w3, w4, rfl⟩ := l4 (hr.len)
  have hA : c.A.frames = some [envOf c.cn c.cs c.L c.a c.ccd] := by rw [hcc]; rfl
  have hB0 : Below c.A₀ c.base [] c.h₀ := by rw [hcc]; exact B
  have nmL : ∀ y : Str, y = "op" ∨ y = "a" ∨ y = "b" ∨ y = "limits" → (fsc 31).names.lookup y = some .local ∧ (y == ("__debug__" : Str)) = false := fun y h => by
    rcases h with rfl | rfl | rfl | rfl <;> decide +kernel
  refine wpAny_call (code_defS0 (binds := [("op", w1), ("a", w2), ("b", w3), ("limits", w4)]) hB0 S'.F c.X S'.N c.T hA ho hcd (Nat.lt_of_le_of_lt (Nat.le_add_right _ _) c.hd) (BindsTo.of_eq rfl) (fun y hy => ?_) (fun g' L' h1 FG F N B' X' T' D => ?_) c.hk rfl rfl rfl (by decide +kernel))
  · refine (nmL y.1 ?_).1
    rcases List.mem_cons.mp hy with rfl | hy
    · exact .inl rfl
    rcases List.mem_cons.mp hy with rfl | hy
    · exact .inr (.inl rfl)
    rcases List.mem_cons.mp hy with rfl | hy
    · exact .inr (.inr (.inl rfl))
    rw [List.mem_singleton.mp hy]
    exact .inr (.inr (.inr rfl))
  obtain ⟨c', hcp⟩ : ∃ c' : Cx g 3, c' = { dp := c.dp + 1, un := c.un + 3, gd := c.gd, cn := "_law_tried", cs := fsc 31, L := L', a := 268, ccd := cdv, cl := [], outer := [envOf c.cn c.cs c.L c.a c.ccd], A₀ := c.A, base := c.base, h₀ := g', B := B', X := X', T := T', hk := rfl, hd := by have := c.hd; omega, hu := by have := c.hu; omega, ht := fun e => Bool.noConfusion (e.symm.trans (by decide +kernel : ((fsc 31).names.lookup ("turn" : Str) == some NameKind.local) = false)), XB := c.XB, TB := c.TB } := ⟨_, rfl⟩
  have hAd : c.A.deeper (envOf "_law_tried" (fsc 31) L' 268 cdv) = c'.A := by subst hcp hcc; rfl
  have hEn : envOf "_law_tried" (fsc 31) L' 268 cdv = c'.env := by subst hcp; rfl
  show wpAny _ (c.A.deeper (envOf "_law_tried" (fsc 31) L' 268 cdv)) (execs (.Try [.Return (some (.Call (.Name "arith" _) [.Name "op" _, .Name "a" _, .Name "b" _, .Name "limits" _] [] _)) _] [.ExceptHandler (some (.Name "LuaError" _)) none [.Return (some (.Constant .none _ _)) _] _] [] [] _ :: []) (envOf "_law_tried" (fsc 31) L' 268 cdv)) _ _ _
  have S1 : St c' nw (fun y => List.lookup y ([("op", w1), ("a", w2), ("b", w3), ("limits", w4)] : List (Str × Value)).reverse) h1 := by subst hcp; exact ⟨F, N⟩
  have ag1 : Ag c' nw (mkRho ["op", "a", "b", "limits"] [.bytes op, .int a, .int b, .lim w] []) (fun y => List.lookup y ([("op", w1), ("a", w2), ("b", w3), ("limits", w4)] : List (Str × Value)).reverse) := by
    subst hcp
    intro x v e
    obtain ⟨u, q1, q2⟩ := mkRho_ag hr e
    exact ⟨u, look_zip (by decide) q1, R.mono FG.keep (fun _ h => h) q2⟩
  have hl1 : LocOk c'.cs (mkRho ["op", "a", "b", "limits"] [.bytes op, .int a, .int b, .lim w] []) := by
    subst hcp
    intro y hy
    rw [mkRho_keys] at hy
    exact nmL y (by simpa using hy)
  have hga : c'.cs.names.lookup ("arith" : Str) = some .globalImplicit := by subst hcp; show (fsc 31).names.lookup ("arith" : Str) = some .globalImplicit; decide +kernel
  have hgL : (envOf "_law_tried" (fsc 31) L' 268 cdv).kindOf "LuaError" = some .globalImplicit := by show (fsc 31).names.lookup ("LuaError" : Str) = some .globalImplicit; decide +kernel
  have HA : FnK g _ 118 _ _ _ := H.f8
  obtain ⟨hE2, -, hL2, -, hB2, -⟩ := s_all (c := c') (G := tb []) gok0 8
  have kk : ∀ (v : Value) (g2 : Heap) (m2 : Str → Option Value) (nw2 : List (Addr × Obj)) (h2 : Heap) (tk2 : Nat), KtsTurn ([envOf c.cn c.cs c.L c.a c.ccd].filterMap (·.frame)) g' g2 → Fr g2 L' h2 m2 → News g2 L' h2 nw2 → Sub nw nw2 → (∀ h, R h nw2 v (ov (trv op a b w))) →
      LeaveS0 ([envOf c.cn c.cs c.L c.a c.ccd].filterMap (·.frame)) c.h₀ c.L m g' (fun r s' => match r with | .ok (.ret v) => Q v s' | .ok _ => False | .error e => noE e s') v { s with heap := h2, toks := tk2 } := fun v g2 m2 nw2 h2 tk2 T2 F2 N2 hs2 hr2 =>
    leaveS0_ F2 N2 T2 fun F3 N3 => k v _ nw2 h2 tk2 rfl (hr2 _) (hs.trans hs2) ⟨F3, N3⟩
  by_cases hx : (op = oPow ∧ b < 0 ∧ a = 0) ∨ ((op = oDiv ∨ op = oMod) ∧ b = 0)
  · have htv : trv op a b w = none := by
      unfold trv
      rcases hx with q | q
      · rw [if_pos q]
      · rw [if_pos q]
        split <;> rfl
    rw [htv] at kk
    refine wpAny_execs_cons (wpAny_Try_except (wpAny_execs_cons (wpAny_Return_some ?_)))
    rw [hAd, hEn]
    refine x_call (c := c') hL2 hl1 S1 ag1 (xs := [.bytes op, .int a, .int b, .lim w]) HA.name ka hga (by decide) rfl rfl fun ws2 nw2 h2 tk2 hr2 hs2 S2 => ?_
    refine x_arith H hX kp (hx.elim .inr .inl) c' nw2 _ { s with heap := h2, toks := tk2 } ws2 _ _ S2 hr2 fun gg e t vs nw3 h3 tk3 F3 R3 hsm hs3 => ?_
    rw [← hAd, ← hEn]
    subst hcp
    refine caught_SO0 (g₀ := g') (s' := { s with heap := h3, toks := tk3 }) R3 F3 B' hsm c.XB c.TB D .refl hX.nam hX.kts (fun h4 g4 news4 T4 F4 N4 _ N4' _ _ _ _ => ?_) rfl hgL (by decide)
    refine wpAny_execs_cons (wpAny_Return_some (wpAny_Constant_none ?_))
    exact kk .none g4 _ nw3 h4 tk3 T4 F4 N4' (hs2.trans hs3) fun _ => rfl
  · have htv : trv op a b w = some (arv op a b w) := by
      unfold trv
      rw [if_neg (fun q => hx (.inl q)), if_neg (fun q => hx (.inr q))]
    rw [htv] at kk
    have hok : okA op a b := by
      unfold okA
      have : op = oAdd ∨ op = oSub ∨ op = oMul ∨ op = oDiv ∨ op = oMod ∨ op = oPow ∨ op = oUnm := by simpa using hop
      rcases this with q | q | q | q | q | q | q
      · exact .inl q
      · exact .inr (.inl q)
      · exact .inr (.inr (.inl q))
      · exact .inr (.inr (.inr (.inr (.inr ⟨.inl q, fun z => hx (.inr ⟨.inl q, z⟩)⟩))))
      · exact .inr (.inr (.inr (.inr (.inr ⟨.inr q, fun z => hx (.inr ⟨.inr q, z⟩)⟩))))
      · exact .inr (.inr (.inr (.inr (.inl ⟨q, by
          by_cases z : 0 ≤ b
          · exact .inl z
          · exact .inr fun z2 => hx (.inl ⟨q, by omega, z2⟩)⟩))))
      · exact .inr (.inr (.inr (.inl q)))
    refine wpAny_execs_cons (wpAny_Try_except (wpAny_execs_cons (wpAny_Return_some ?_)))
    rw [hAd, hEn]
    refine x_call (c := c') hL2 hl1 S1 ag1 (xs := [.bytes op, .int a, .int b, .lim w]) HA.name ka hga (by decide) rfl rfl fun ws2 nw2 h2 tk2 hr2 hs2 S2 => ?_
    refine noE_E (c_arith H ⟨op, a, b, w, rfl, rfl, hok, ha, hb, h0, hw⟩ c' nw2 _ { s with heap := h2, toks := tk2 } ws2 _ S2 hr2 fun v x nw3 h3 tk3 hx hr3 hs3 S3 => ?_)
    subst hx hcp
    exact kk v g' _ nw3 h3 tk3 .refl S3.F S3.N (hs2.trans hs3) fun _ => R.plain rfl hr3

section
variable {prog : Program} {w : World} {A : Around} {E : Value → Shared → Prop} {s : Shared}
theorem ext_bytes {R : Result → Shared → Prop} (hh : A.handled = none) (b : Array UInt8) (t : Tok) (S : Addr) (c₀ : Nat) (hS : s.heap.get? S = some { cls := .type "list", data := .seq #[] c₀ }) (hn : b.size ≤ sizeLine)
    (hR : ∀ h' tk acc c', (∀ b o, b ≠ S → s.heap.get? b = some o → h'.get? b = some o) → h'.get? S = some { cls := .type "list", data := .seq acc c' } → ItemsOf (fun i v => ∃ c u, b[i]? = some c ∧ v = .int (c.toNat : Int) u) acc b.size → R (.ok (.ret .none)) { s with heap := h', toks := tk }) :
    wpAny (model prog w) A.in1 (Builtin.List.listExtendWith (.ref S) (.bytes b t) .none)
      (fun fin s' => match fin with | .done f => R (.ok f) s' | .again c' => c'.quiet = true ∧ codeAny (model prog w) A c' R s') (fun e s' => R (.error e) s') s := by
  have hSI : S ≠ s.heap.objs.size := Nat.ne_of_lt (Heap.lt_size hS)
  unfold Builtin.List.listExtendWith
  refine wpAny_bind (wpAny_typeOf (T := "bytes") (v := .bytes b t) rfl ?_)
  have h1 : Builtin.List.listSameRef (.ref S) (.bytes b t) = false := rfl
  have h2 : (Value.type "bytes" == Value.type "list") = false := by decide
  have h3 : (Value.type "bytes" == Value.type "tuple") = false := by decide
  simp only [h1, h2, h3, Bool.or_false, Bool.false_eq_true, if_false]
  refine wpAny_bind (KBw.pyIter_bytes ?_)
  refine wpAny_bind (wpAny_holding ?_)
  unfold Builtin.List.listLengthHint
  refine wpAny_bind (wpAny_specialOf (T := "bytes") (v := .bytes b t) rfl FB.slot_bytes_len.lookup ?_)
  wp_delta
  refine wpAny_bind (wpAny_isInstance (T := "bytes") (v := .bytes b t) (b := true) rfl (by rw [isSubtype_type]; kernel_rfl) ?_)
  show wpAny _ _ (typeOf (Value.bytes b t) >>= _) _ _ _
  refine wpAny_bind (wpAny_typeOf (T := "bytes") (v := .bytes b t) rfl ?_)
  refine wpAny_pure ?_
  rw [if_neg (by decide)]
  refine wpAny_pure ⟨plainId_quiet F.plain_extend_loop _, codeAny_extend_loopS (KBw.walks (A := A.in1) hh s.heap.objs.size b t).toS hn _ (fun hm => hSI (List.mem_singleton.mp hm)) _ b.size 0 _ _ _ rfl (Nat.zero_le _) ⟨_, Heap.get?_push_size _ rfl, rfl, rfl⟩ (Heap.get?_push_of_some _ hS) (ItemsOf.nil _) fun s' acc' c' hm hS' hacc => ?_⟩
  rw [Moved.eq_with hm]
  refine hR s'.heap s'.toks acc' c' (fun b ob hb e => hm.heap b ob (fun hmem => ?_) (Heap.get?_push_of_some _ e)) hS' hacc
  rcases List.mem_cons.mp hmem with e' | hmem
  · exact hb e'
  · exact absurd (Heap.lt_size e) (by rw [List.mem_singleton.mp hmem]; exact Nat.lt_irrefl _)
theorem call_list_bytes {Q : Value → Shared → Prop} (hh : A.handled = none) (b : Array UInt8) (t : Tok) (hn : b.size ≤ sizeLine)
    (hQ : ∀ h' tk acc c', (∀ b o, s.heap.get? b = some o → h'.get? b = some o) → h'.get? s.heap.objs.size = some { cls := .type "list", data := .seq acc c' } → ItemsOf (fun i v => ∃ c u, b[i]? = some c ∧ v = .int (c.toNat : Int) u) acc b.size → Q (.ref s.heap.objs.size) { s with heap := h', toks := tk }) :
    wpAny (model prog w) A (call (.type "list") [.bytes b t]) Q E s := by
  refine callType_codes (Q₁ := fun obj s₁ => obj = .ref s.heap.objs.size ∧ s₁ = { s with heap := s.heap.push { cls := .type "list", data := .seq #[] } }) F.called_list (F.typeCall_list_1 _) F.entry_list_init
    (code_list_new _ ⟨rfl, rfl⟩) fun obj s₁ h₁ => ?_
  obtain ⟨rfl, rfl⟩ := h₁
  have hS : (s.heap.push { cls := .type "list", data := .seq #[] }).get? s.heap.objs.size = some { cls := .type "list", data := .seq #[] } := Heap.get?_push_size _ rfl
  refine ⟨⟨_, hS, rfl⟩, F.args_list_init_2 _ _, ?_⟩
  show wpAny _ _ (do let old ← Builtin.List.listItems (.ref s.heap.objs.size); Builtin.List.listUpdate (.ref s.heap.objs.size) (fun _ => #[]); letGo old.toList.reverse; Builtin.List.listExtendWith (.ref s.heap.objs.size) (.bytes b t) .none) _ _ _
  refine wpAny_bind ?_
  unfold Builtin.List.listItems
  refine wpAny_bind (wpAny_seqItems hS rfl (wpAny_pure ?_))
  show wpAny _ _ (updateSeq s.heap.objs.size (fun _ => #[]) >>= fun _ => letGo (#[] : Array Value).toList.reverse >>= fun _ => Builtin.List.listExtendWith (.ref s.heap.objs.size) (.bytes b t) .none) _ _ _
  refine wpAny_bind (wpAny_updateSeq hS rfl ?_)
  have hS₂ := Heap.get?_update_self (Obj.mapSeq (fun _ => (#[] : Array Value))) hS rfl
  refine wpAny_bind (wpAny_letGo ?_)
  refine ext_bytes (A := A.in1) hh b t _ _ hS₂ hn fun h' tk acc' c' hk hS' hacc => ?_
  exact ⟨rfl, hQ h' tk acc' c' (fun b o e => hk b o (Nat.ne_of_lt (Heap.lt_size e)) ((Heap.get?_update_other _ _ (Ne.symm (Nat.ne_of_lt (Heap.lt_size e)))).trans (Heap.get?_push_of_some _ e))) hS' hacc⟩
end
noncomputable def sLst (xs : List V) (r : V) : Prop := ∃ l, xs = [.bytes l] ∧ r = .own l ∧ l.length ≤ 100000
theorem ints_of : ∀ {vs : List Value} {l : List UInt8}, vs.length = l.length → (∀ (i : Nat) (v : Value), vs[i]? = some v → ∃ (c : UInt8) (u : Tok), l[i]? = some c ∧ v = Value.int (c.toNat : Int) u) → IntsAre vs (l.map fun c => (c.toNat : Int))
  | [], [], _, _ => .nil
  | [], _ :: _, h, _ => by cases h
  | _ :: _, [], h, _ => by cases h
  | v :: vs, c :: l, h, k => by
    obtain ⟨c', u, e, rfl⟩ := k 0 v rfl
    cases (show some c = some c' from e)
    exact .cons _ _ (ints_of (Nat.succ.inj h) fun i v e => k (i + 1) v e)
theorem b_lst {g : Gl} {d : Nat} {xs : List V} {r : V} (h : sLst xs r) : Con g d (.type "list") xs r := by
  obtain ⟨l, rfl, rfl, hl⟩ := h
  intro c news m s ws Q S hrl kt
  obtain ⟨_, _, rfl, ⟨b, t, rfl, hb⟩, rfl⟩ := hrl
  have hbs : b.size = l.length := by rw [← hb, KBw.ints_length]
  refine call_list_bytes rfl b t (by rw [hbs, sizeLine_eq]; exact Nat.le_trans hl (Nat.le_of_ble_eq_true rfl)) fun h' tk acc c' hk hS hacc => ?_
  refine kt _ (.own l) ((s.heap.objs.size, lisO acc.toList c') :: news) h' tk rfl ⟨_, acc.toList, c', rfl, .head _, ?_⟩ (fun _ h => .tail _ h) ⟨S.F.keeps hk, fun p hp => ?_⟩
  · have : l = b.toList.map fun c => (c.toNat : Int) := hb.symm
    rw [this]
    exact ints_of (by rw [Array.length_toList, Array.length_toList]; exact hacc.1) fun i v e => by
      obtain ⟨c, u, q1, q2⟩ := hacc.2 i v (by rwa [Array.getElem?_toList] at e)
      exact ⟨c, u, by rwa [Array.getElem?_toList], q2⟩
  · rcases List.mem_cons.mp hp with rfl | hp
    · exact ⟨hS, Ne.symm (Nat.ne_of_lt S.F.ns.lt), S.F.fresh⟩
    · exact ⟨hk _ _ (S.N p hp).1, (S.N p hp).2⟩

noncomputable section
noncomputable abbrev eDr : Expr := arg0 (svOf ((fbd 33)[2]?))
noncomputable abbrev dcl (L : Addr) : List (Str × Addr) := [(("menu" : Str), (L + 3 : Nat)), (("at" : Str), (L + 2 : Nat)), (("script" : Str), (L + 1 : Nat))]
noncomputable abbrev dcc (L : Addr) : List (Str × Addr) := [(("script" : Str), (L + 1 : Nat)), (("menu" : Str), (L + 3 : Nat)), (("at" : Str), (L + 2 : Nat))]
end
noncomputable def mA : List Int := [32, 9, 43, 45, 48, 120, 88, 48]
noncomputable def mB : List Int := [48, 49, 50, 51, 52, 53, 54, 55, 56, 57, 97, 98, 99, 100, 101, 102, 103, 104, 105, 106, 107, 108, 109, 110, 111, 112, 113, 114, 115, 116, 117, 118, 119, 120, 121, 122, 65, 66, 67, 88, 89, 90]
noncomputable def mC : List Int := [49, 48, 49, 49, 32, 95, 46]
noncomputable def menu (b : Int) : List Int := mA ++ mB.take ((if 2 > b then 2 else b) + 1).toNat ++ mC
theorem menu_in (b : Int) : ∀ i ∈ menu b, 0 ≤ i ∧ i < 256 := fun i hi => by
  unfold menu at hi
  rcases List.mem_append.mp hi with hi | hi
  · rcases List.mem_append.mp hi with hi | hi
    · exact (by decide : ∀ i ∈ mA, 0 ≤ i ∧ i < 256) i hi
    · exact (by decide : ∀ i ∈ mB, 0 ≤ i ∧ i < 256) i (List.mem_of_mem_take hi)
  · exact (by decide : ∀ i ∈ mC, 0 ≤ i ∧ i < 256) i hi
theorem menu_len (b : Int) : 0 < (menu b).length ∧ (menu b).length ≤ 57 := by
  unfold menu
  rw [List.length_append, List.length_append, List.length_take]
  have a : mA.length = 8 := rfl
  have b' : mB.length = 42 := rfl
  have c : mC.length = 7 := rfl
  omega
noncomputable def dr1 (ns : List Int) (a b k : Int) : Int := (menu b).getD ((cell ns (a + k)).fmod (menu b).length).toNat 0
noncomputable def drawn (ns : List Int) (a b : Int) : List Int := (((List.range ((cell ns a).fmod 9).toNat).map fun (i : Nat) => (i : Int))).map (dr1 ns a b)
noncomputable def sDrawn (xs : List V) (r : V) : Prop := ∃ ns a b, xs = [.lst ns, .int a, .int b] ∧ r = .bytes (drawn ns a b) ∧ ns.length ≤ 63 ∧ 0 ≤ a ∧ a ≤ 900 ∧ 0 ≤ b ∧ b ≤ 36
theorem dr1_in (ns : List Int) (a b k : Int) : 0 ≤ dr1 ns a b k ∧ dr1 ns a b k < 256 := by
  unfold dr1
  rw [List.getD_eq_getElem?_getD]
  cases e : (menu b)[((cell ns (a + k)).fmod (menu b).length).toNat]? with
  | none => exact ⟨Int.le_refl _, by decide⟩
  | some x => exact menu_in b x (List.mem_of_getElem? e)
theorem drawn_len (ns : List Int) (a b : Int) : (drawn ns a b).length ≤ 8 := by
  unfold drawn
  rw [List.length_map, List.length_map, List.length_range]
  have := Int.fmod_lt_of_pos (cell ns a) (show (0 : Int) < 9 by decide)
  omega
section
variable {g : Gl} {d : Nat} {c : Cx g d} {news : List (Addr × Obj)} {m : Str → Option Value} {s : Shared} {scope : Scope} {cl : List (Str × Addr)} {C : Addr}
theorem nameC_K {x : Str} {a : Addr} {pos : Pos} {E : Value → Shared → Prop} {Q : Value → Shared → Prop} (S : St c news m s.heap) (e : nsIn g.K mainGlobals x = some (some (.ref a))) (h : Q (.ref a) s) (hk : scope.kind = .function) (hx : (compEnvC scope cl C c.env).kindOf x = some .globalImplicit) (hd : (x == ("__debug__" : Str)) = false) :
    wpAny (W g) c.A (eval (.Name x pos) (compEnvC scope cl C c.env)) Q E s := Name_function_global hk hx (loadGlobal_global (env := compEnvC scope cl C c.env) ((topRead_of c.T).g.keeps S.F.keep) (mg_of c.X (topRead_of c.T).g e) h) hd
theorem nameC_B {x : Str} {v : Value} {pos : Pos} {E : Value → Shared → Prop} {Q : Value → Shared → Prop} (S : St c news m s.heap) (e : nsIn g.K mainGlobals x = some none) (hv : bootBuiltins x = some v) (hn : x ≠ "__name__") (h : Q v s) (hk : scope.kind = .function) (hx : (compEnvC scope cl C c.env).kindOf x = some .globalImplicit) (hd : (x == ("__debug__" : Str)) = false) :
    wpAny (W g) c.A (eval (.Name x pos) (compEnvC scope cl C c.env)) Q E s :=
  Name_function_global hk hx (loadGlobal_builtin (env := compEnvC scope cl C c.env) ((topRead_of c.T).g.keeps S.F.keep) (mg_none_of c.X (topRead_of c.T).g e) ((topRead_of c.T).b.keeps S.F.keep) (((topRead_of c.T).builtins x hn).trans hv) h) hd
end
noncomputable abbrev tD : Tb := ⟨[⟨"max", sMax⟩, ⟨"list", sLst⟩], [], []⟩
theorem c_drawn {g : Gl} (H : GA g) (kc : keepIn g.K (.ref 202) = true) {xs : List V} {r : V} (h : sDrawn xs r) : Con g 2 (.ref 280) xs r := by
  obtain ⟨ns, a, b, rfl, rfl, hns, ha0, ha1, hb0, hb1⟩ := h
  have H' : FnK g _ 280 _ _ _ := H.f33
  have HC : FnK g _ 202 _ _ _ := H.f21
  obtain ⟨oc, od, doc, pm, an, cdv, ct, osl, ho, hcd⟩ := H'.look
  intro c news m s ws Q S hrl k
  obtain ⟨w1, _, e1, r1, w2, _, e2, r2, w3, _, e3, r3, e4⟩ := hrl
  subst e4 e3 e2 e1
  refine wpAny_call (code_defC (binds := [("script", w1), ("at", w2), ("base", w3)]) c.B S.F c.X S.N c.T rfl rfl c.hk ho hcd (Nat.lt_of_le_of_lt (Nat.le_add_right _ _) c.hd) (BindsTo.of_eq rfl) rfl (by decide +kernel) (fun g' L' h1 tk1 cells FG F N CA B X T hlt => ?_) rfl rfl rfl)
  obtain ⟨oM, oA, oS, rfl, dM, dA, dS⟩ := CellsAre.three (n₁ := "menu") (n₂ := "at") (n₃ := "script") (c₁ := (L' + 3 : Nat)) (c₂ := (L' + 2 : Nat)) (c₃ := (L' + 1 : Nat)) CA
  clear CA
  replace dA : oA.data = .cell (some w2) := dA
  replace dS : oS.data = .cell (some w1) := dS
  obtain ⟨mm, hmm⟩ : ∃ mm : Str → Option Value, mm = bindL (envOfC "_law_drawn" (fsc 33) L' 280 cdv).kindOf [("script", w1), ("at", w2), ("base", w3)] (fun _ => none) := ⟨_, rfl⟩
  have hmb : mm "base" = some w3 := by rw [hmm]; rfl
  replace F : Fr g' L' h1 mm := by rw [hmm]; exact F
  clear hmm
  obtain ⟨c', hcp⟩ : ∃ c' : Cx g 1, c' = { dp := c.dp + 1, un := c.un + 3, gd := c.gd, cn := "_law_drawn", cs := fsc 33, L := L', a := 280, ccd := cdv, cl := dcl L', outer := envX c.cn c.cs c.L c.a c.ccd c.cl :: c.outer, A₀ := c.A, base := c.base, h₀ := g', B := B, X := X, T := T, hk := rfl, hd := by have := c.hd; omega, hu := by have := c.hu; omega, ht := fun e => Bool.noConfusion (e.symm.trans (by decide +kernel : ((fsc 33).names.lookup ("turn" : Str) == some NameKind.local) = false)), XB := c.XB, TB := c.TB } := ⟨_, rfl⟩
  have hAd : c.A.deeper (envOfC "_law_drawn" (fsc 33) L' 280 cdv) = c'.A := by subst hcp; rfl
  have hEn : envOfC "_law_drawn" (fsc 33) L' 280 cdv = c'.env := by subst hcp; rfl
  show wpAny _ (c.A.deeper (envOfC "_law_drawn" (fsc 33) L' 280 cdv)) (execs _ (envOfC "_law_drawn" (fsc 33) L' 280 cdv)) _ _ _
  rw [hAd, hEn]
  refine wpAny_mono (E := noE) ?_ (fun _ _ h => h) fun _ _ h => h.elim
  have S1 : St c' (((L' + 3 : Nat), oM) :: ((L' + 2 : Nat), oA) :: ((L' + 1 : Nat), oS) :: news) mm h1 := by subst hcp; exact ⟨F, N⟩
  have hg : c'.h₀ = g' := by subst hcp; rfl
  have rg : ∀ {w : Value} {x : V}, R c.h₀ news w x → R c'.h₀ (((L' + 3 : Nat), oM) :: ((L' + 2 : Nat), oA) :: ((L' + 1 : Nat), oS) :: news) w x := fun r => by rw [hg]; exact R.mono FG.keep (fun _ h => .tail _ (.tail _ (.tail _ h))) r
  have hcs : c'.cs = fsc 33 := by subst hcp; rfl
  have hcl : c'.cl = dcl L' := by subst hcp; rfl
  have hL' : c'.L = L' := by subst hcp; rfl
  have kont : ∀ (l : List Int) (v : Value) (m2 : Str → Option Value) (nw : List (Addr × Obj)) (h2 : Heap) (tk2 : Nat), l = drawn ns a b → St c' nw m2 h2 → Sub news nw → R c'.h₀ nw v (.bytes l) → LeaveK c.h₀ c.L m g' (fun r s' => match r with | .ok (.ret v) => Q v s' | .ok _ => False | .error e => noE e s') v { s with heap := h2, toks := tk2 } := fun l v m2 nw h2 tk2 hl S2 hs hr => by
    subst hl hcp
    exact leaveK_ S2.F S2.N fun F3 N3 => k v _ nw h2 tk2 rfl (R.plain rfl hr) hs ⟨F3, N3⟩
  have FGk := FG.keep
  clear FG
  have hG : GOk g 1 c'.cs tD := by rw [hcs]; exact (gok_c (f := ⟨"max", sMax⟩) ⟨by decide +kernel, by decide +kernel, .bi "max" H.nmax (by decide +kernel) (by decide) fun xs r h => b_max h⟩ (gok_c (f := ⟨"list", sLst⟩) ⟨by decide +kernel, by decide +kernel, .ty "list" H.nlist (by decide +kernel) (by decide) fun xs r h => b_lst h⟩ gok0))
  obtain ⟨hE, -, -, -, -, -⟩ := s_all hG 10
  have lk : ∀ y : Str, y = "base" ∨ y = "wide" → c'.cs.names.lookup y = some .local ∧ (y == ("__debug__" : Str)) = false := fun y h => by
    rw [hcs]
    rcases h with rfl | rfl <;> decide +kernel
  have hl1 : LocOk c'.cs ([("base", some (.int b)), ("wide", none)] : Rho) := fun y hy => lk y (by simpa using hy)
  have ag1 : Ag c' (((L' + 3 : Nat), oM) :: ((L' + 2 : Nat), oA) :: ((L' + 1 : Nat), oS) :: news) ([("base", some (.int b)), ("wide", none)] : Rho) mm := fun x v e => by
    by_cases hx : x = "base"
    · subst hx
      cases (show some (V.int b) = some v from e)
      exact ⟨w3, hmb, rg r3⟩
    · by_cases hx2 : x = "wide"
      · subst hx2; exact (nomatch (show (none : Option V) = some v from e))
      · rw [lkp_no hx, lkp_no hx2] at e; exact (nomatch (show (none : Option V) = some v from e))
  obtain ⟨Wd, hW⟩ : ∃ Wd, (if 2 > b then 2 else b) = Wd := ⟨_, rfl⟩
  have hWd : 2 ≤ Wd ∧ Wd ≤ 36 := by rw [← hW]; split <;> omega
  show wpAny _ _ (execs (.Assign [.Name "wide" _] (.Call (.Name "max" _) [.Name "base" _, .Constant (.int 2) _ _] [] _) _ :: _) c'.env) _ _ _
  refine wpAny_execs_cons (wpAny_Assign_Name ?_ rfl)
  refine hE _ ([("base", some (.int b)), ("wide", none)] : Rho) (· = .int Wd) _ mm { s with heap := h1, toks := tk1 } _ (Exists.intro _ (And.intro ⟨b, 2, rfl, rfl⟩ (congrArg V.int hW))) hl1 S1 ag1 fun u x nw1 h2 tk2 hx hr1 hs1 S2 => ?_
  subst hx
  refine storeX_L S2.F S2.N (fun h3 F3 N3 => ?_) c'.hk (lk _ (.inr rfl)).1
  have ag2 := ag_put (ag1.sub hs1) hr1 (x := "wide")
  have S3 : St c' nw1 _ h3 := ⟨F3, N3⟩
  have hl2 : LocOk c'.cs ([("base", some (.int b)), ("wide", some (.int Wd))] : Rho) := fun y hy => lk y (by simpa using hy)
  have hboot : bootBuiltins "list" = some (.type "list") := by decide +kernel
  have hgl : ∀ y : Str, y = "list" ∨ y = "bytes" ∨ y = "range" ∨ y = "_law_cell" → c'.cs.names.lookup y = some .globalImplicit := fun y h => by
    rw [hcs]
    rcases h with rfl | rfl | rfl | rfl <;> decide +kernel
  have hx1 : c'.env.kindOf "menu" = some .cell := by subst hcp; rfl
  show wpAny _ _ (execs (.Assign [.Name "menu" _] (.BinOp (.BinOp (.Call (.Name "list" _) [.Constant (.bytes _) _ _] [] _) .Add (.Call (.Name "list" _) [.Subscript (.Constant (.bytes _) _ _) (.Slice none (some _) none _) _] [] _) _) .Add (.Call (.Name "list" _) [.Constant (.bytes _) _ _] [] _) _) _ :: _) c'.env) _ _ _
  refine wpAny_execs_cons (wpAny_Assign_Name (wpAny_BinOp (wpAny_BinOp ?_)) rfl)
  refine hE _ ([("base", some (.int b)), ("wide", some (.int Wd))] : Rho) (· = .own mA) nw1 _ { s with heap := h3, toks := tk2 + 1 } _ (Exists.intro _ (And.intro ⟨mA, rfl, rfl, by decide⟩ rfl)) hl2 S3 ag2 fun u1 x nw2 h4 tk4 hx hr4 hs4 S4 => ?_
  subst hx
  have hbt : ∀ s : Shared, bootBuiltins "bytes" = some (.type "bytes") := fun _ => by decide +kernel
  have toS : sizeLine = 16777216 := by decide +kernel
  show wpAny _ _ (eval (.Name "list" _) c'.env >>= fun fv => callWith _ fv [] (backTo _ (starEach [.Subscript (.Constant (.bytes _) _ _) (.Slice none (some _) none _) _] c'.env)) (backToKw _ (keywordEach [] c'.env))) _ _ _
  refine wpAny_bind (nameX_B S4.F c'.X (topRead_of c'.T) H.nlist hboot (by decide) ?_ c'.hk (hgl _ (.inl rfl)) (by decide))
  rw [plain_star (r := []) (env := c'.env) rfl]
  refine PySem.callWith_type rfl (Calls.evalArgs_plain (Calls.spliced_cons (Subscript_ ?_)))
  refine Constant_bytes (k := 0) (pos := default) ?_
  show wpAny _ _ ((pure .none : Sem Value) >>= fun l => holding [l] (eval _ c'.env) >>= fun r => holding [l, r] (pure .none) >>= fun z => newFields "slice" [l, r, z]) _ _ _
  refine wpAny_bind (wpAny_pure (wpAny_bind (wpAny_holding ?_)))
  refine hE _ ([("base", some (.int b)), ("wide", some (.int Wd))] : Rho) (· = .int (Wd + 1)) nw2 _ { s with heap := h4, toks := tk4 + 1 } _ rfl hl2 S4 (ag2.sub hs4) fun u2 x nw3 h5 tk5 hx hr5 hs5 S5 => ?_
  subst hx
  obtain ⟨tw, rfl⟩ := hr5
  refine wpAny_bind (wpAny_holding (wpAny_pure (wpAny_newObj_type ?_ (Nat.le_of_ble_eq_true rfl))))
  refine KBc.slice_K (ks := mB) S5.F S5.N rfl .none (isPart (Wd + 1) tw) (by decide) (fun h6 t6 tk6 F6 N6 e6 => ?_) rfl (letGo_bytes _ _ _)
  have e6' : KBw.bInts (KBy.picked #[48, 49, 50, 51, 52, 53, 54, 55, 56, 57, 97, 98, 99, 100, 101, 102, 103, 104, 105, 106, 107, 108, 109, 110, 111, 112, 113, 114, 115, 116, 117, 118, 119, 120, 121, 122, 65, 66, 67, 88, 89, 90] none (some (Wd + 1))) = mB.take (Wd + 1).toNat := by
    refine e6.trans ?_
    have c1 : clipAt mB.length (Wd + 1) = min (Wd + 1).toNat mB.length := by
      rw [show (Wd + 1) = (((Wd + 1).toNat : Nat) : Int) from (Int.toNat_of_nonneg (by omega)).symm]
      exact (clipAt_nat _ _).trans (by rw [Int.toNat_natCast])
    show (mB.drop 0).take (clipAt mB.length (Wd + 1) - 0) = _
    rw [c1, List.drop_zero, Nat.sub_zero, ← List.take_eq_take_min]
  have lenB : (mB.take (Wd + 1).toNat).length ≤ 42 := by rw [List.length_take]; exact Nat.min_le_right _ _
  refine Calls.spliced_nil ?_
  refine b_lst (g := g) (d := 1) ⟨mB.take (Wd + 1).toNat, rfl, rfl, by omega⟩ c' nw3 _ { s with heap := h6, toks := tk6 } [_] _ ⟨F6, N6⟩ ⟨_, _, rfl, ⟨_, _, rfl, e6'⟩, rfl⟩ fun u3 x nw4 h7 tk7 hx hr7 hs7 S7 => ?_
  subst hx
  obtain ⟨D1, vs1, n1, rfl, hm1, hi1⟩ := hr4
  obtain ⟨D2, vs2, n2, rfl, hm2, hi2⟩ := hr7
  refine add_lists_ints (s := { s with heap := h7, toks := tk7 }) S7.F S7.N (News.isList S7.N (hs7 _ (hs5 _ hm1))) (News.isList S7.N hm2) hi1 hi2 (fun h8 F8 N8 hi8 => ?_) (by have : mA.length = 8 := rfl; rw [toS]; omega)
  have S8 : St c' _ _ h8 := ⟨F8, N8⟩
  have s18 : Sub nw1 _ := fun p hp => hs7 p (hs5 p (hs4 p hp))
  refine hE _ ([("base", some (.int b)), ("wide", some (.int Wd))] : Rho) (· = .own mC) _ _ { s with heap := h8, toks := tk7 } _ (Exists.intro _ (And.intro ⟨mC, rfl, rfl, by decide⟩ rfl)) hl2 S8 (ag2.sub fun p hp => .tail _ (s18 p hp)) fun u4 x nw9 h9 tk9 hx hr9 hs9 S9 => ?_
  subst hx
  obtain ⟨D3, vs3, n3, rfl, hm3, hi3⟩ := hr9
  have hmenu : menu b = mA ++ mB.take (Wd + 1).toNat ++ mC := by unfold menu; rw [hW]
  refine add_lists_ints (s := { s with heap := h9, toks := tk9 }) S9.F S9.N (News.isList S9.N (hs9 _ (.head _))) (News.isList S9.N hm3) hi8 hi3 (fun h10 F10 N10 hi10 => ?_) (by rw [← List.length_append, ← hmenu]; have := (menu_len b).2; rw [toS]; omega)
  rw [← hmenu] at hi10
  have s19 : Sub nw1 nw9 := fun p hp => hs9 p (.tail _ (s18 p hp))
  have hM1 : ((L' + 3 : Nat), oM) ∈ nw9 := s19 _ (hs1 _ (.head _))
  obtain ⟨l', N', ha, hk'⟩ := News.split1 N10 (.tail _ hM1)
  obtain ⟨D, hD⟩ : ∃ D, D = h9.objs.size := ⟨_, rfl⟩
  dsimp only at hk' ⊢
  rw [← hD] at hk' ⊢
  have hDne : D ≠ (L' + 3 : Nat) := fun q => by
    have := Heap.lt_size (S9.N _ hM1).1
    rw [← q, hD] at this
    exact absurd this (Nat.lt_irrefl _)
  refine storeX_C (cl := c'.cl) (o := oM) (g := fun o' => ((L' + 3 : Nat), o') :: l') F10 N' (by rw [hcl]; rfl) (.head ha) dM (fun h11 oM' F11 N11 dM' => ?_) c'.hk hx1
  have hsub : Sub news l' := fun p hp => hk' p (.tail _ (s19 p (hs1 p (.tail _ (.tail _ (.tail _ hp)))))) (Nat.ne_of_lt (Nat.lt_of_lt_of_le (hlt p hp) (Nat.le_add_right L' 3)))
  have hmA' : ((L' + 2 : Nat), oA) ∈ l' := hk' _ (.tail _ (s19 _ (hs1 _ (.tail _ (.head _))))) (Nat.ne_of_lt (Nat.lt_succ_self (L' + 2 : Nat)))
  have hmS' : ((L' + 1 : Nat), oS) ∈ l' := hk' _ (.tail _ (s19 _ (hs1 _ (.tail _ (.tail _ (.head _)))))) (Nat.ne_of_lt (Nat.add_lt_add_left (by decide : 1 < 3) L'))
  have hmD' := hk' _ (.head _) hDne
  have S11 : St c' (((L' + 3 : Nat), oM') :: l') _ h11 := ⟨F11, N11⟩
  have rg' : ∀ {w : Value} {x : V}, R c.h₀ news w x → R c'.h₀ l' w x := fun r => R.move (fun _ _ e => e) (fun p hp _ => hsub p hp) (by rw [hg]; exact R.mono FGk (fun _ h => h) r)
  have RLc : ∀ {nw : List (Addr × Obj)} {k : Int} {u : Value}, Sub l' nw → R c'.h₀ nw u (.int k) → RL c'.h₀ nw [.lst ns, .int k] [w1, u] := fun hs hu => ⟨w1, _, rfl, (rg' r1).sub hs, _, _, rfl, hu, rfl⟩
  obtain ⟨n, hn⟩ : ∃ n, n = ((cell ns a).fmod 9).toNat := ⟨_, rfl⟩
  have hn9 : n ≤ 8 := by have := Int.fmod_lt_of_pos (cell ns a) (show (0 : Int) < 9 by decide); omega
  have hdr : drawn ns a b = ((List.range n).map fun (i : Nat) => (i : Int)).map (dr1 ns a b) := by unfold drawn; rw [hn]
  have hEn2 : c'.env = envX "_law_drawn" (fsc 33) L' 280 cdv (dcl L') := by subst hcp; rfl
  show wpAny _ _ (execs (.Return (some (.Call (.Name "bytes" _) [.ListComp _ [⟨.Name "spot" _, .Call (.Name "range" _) [.BinOp (.Call (.Name "_law_cell" _) [.Name "script" _, .Name "at" _] [] _) .Mod (.Constant (.int 9) _ _) _] [] _, [], 0⟩] _ _] [] _)) _ :: []) c'.env) _ _ _
  refine wpAny_execs_cons (wpAny_Return_some ?_)
  show wpAny _ _ (eval (.Name "bytes" _) c'.env >>= fun fv => callWith _ fv [] (backTo _ (starEach [.ListComp _ _ _ _] c'.env)) (backToKw _ (keywordEach [] c'.env))) _ _ _
  refine wpAny_bind (nameX_B S11.F c'.X (topRead_of c'.T) H.nbytes (by decide +kernel : bootBuiltins "bytes" = some (.type "bytes")) (by decide) ?_ c'.hk (hgl _ (.inr (.inl rfl))) (by decide))
  rw [plain_star (r := []) (env := c'.env) rfl]
  refine PySem.callWith_type rfl (Calls.evalArgs_plain (Calls.spliced_cons ?_))
  refine lc_U (c := c') (cl := dcc L') (items := (List.range n).map fun (i : Nat) => (i : Int)) (out := drawn ns a b) (.inr ⟨n, rfl, rfl⟩) S11 ?_ (by rw [hEn2]; with_unfolding_all rfl) (by decide) rfl (by decide) rfl (fun _ => rfl) (by rw [List.length_map, List.length_range]; omega) (by rw [hdr, List.length_map]) (fun i kk o q1 q2 => ?_) fun v x nw12 h12 tk12 hx hr12 hs12 S12 => ?_
  · show wpAny _ _ (eval (.Name "range" _) c'.env >>= fun fv => callWith _ fv [] (backTo _ (starEach [.BinOp (.Call (.Name "_law_cell" _) [.Name "script" _, .Name "at" _] [] _) .Mod (.Constant (.int 9) _ _) _] c'.env)) (backToKw _ (keywordEach [] c'.env))) _ _ _
    refine wpAny_bind (nameX_B S11.F c'.X (topRead_of c'.T) H.nrange (by decide +kernel : bootBuiltins "range" = some (.type "range")) (by decide) ?_ c'.hk (hgl _ (.inr (.inr (.inl rfl)))) (by decide))
    rw [plain_star (r := []) (env := c'.env) rfl]
    refine PySem.callWith_type rfl (Calls.evalArgs_plain (Calls.spliced_cons (wpAny_BinOp ?_)))
    show wpAny _ _ (eval (.Name "_law_cell" _) c'.env >>= fun fv => callWith _ fv [] (backTo _ (starEach [.Name "script" _, .Name "at" _] c'.env)) (backToKw _ (keywordEach [] c'.env))) _ _ _
    refine wpAny_bind (nameX_K S11.F c'.X (topRead_of c'.T) HC.name (callWith_K c'.X kc ?_ (plain_star (r := [.Name "at" _]) (env := c'.env) rfl) (plain_any rfl)) c'.hk (hgl _ (.inr (.inr (.inr rfl)))) (by decide))
    rw [plain_star (r := [.Name "at" _]) (env := c'.env) rfl]
    refine Calls.spliced_cons (nameX_C S11.N (by rw [hcl]; rfl) (.tail _ hmS') dS (Calls.spliced_cons (nameX_C S11.N (by rw [hcl]; rfl) (.tail _ hmA') dA (Calls.spliced_nil ⟨c'.X.keeps S11.F.keep, ?_⟩) c'.hk (by subst hcp; rfl) (by decide))) c'.hk (by subst hcp; rfl) (by decide))
    refine c_cell H ⟨ns, a, rfl, rfl, hns, ha0, by omega⟩ c' _ _ { s with heap := h11, toks := tk9 } [w1, w2] _ S11 (RLc (fun p hp => .tail _ hp) ((rg' r2).sub fun p hp => .tail _ hp)) fun v x nw12 h12 tk12 hx hr12 hs12 S12 => ?_
    subst hx
    obtain ⟨tc, rfl⟩ := hr12
    refine wpAny_Constant_int (opI_s (o := .Mod) (P := (· = .int ((cell ns a).fmod 9))) ⟨by decide, rfl⟩ fun tt i tk hi => Calls.spliced_nil ?_)
    cases hi
    refine b_range (g := g) (d := 1) ⟨(cell ns a).fmod 9, rfl, by rw [← hn], Int.fmod_nonneg_of_pos _ (by decide), by have := Int.fmod_lt_of_pos (cell ns a) (show (0 : Int) < 9 by decide); omega⟩ c' nw12 _ { s with heap := h12, toks := tk } [_] _ S12 ⟨_, _, rfl, ⟨_, rfl⟩, rfl⟩ fun v x nw13 h13 tk13 hx hr13 hs13 S13 => ?_
    subst hx
    exact ⟨nw13, h13, tk13, rfl, hr13, hs12.trans hs13, S13⟩
  · have hkk : 0 ≤ kk ∧ kk < n := by
      rw [List.getElem?_map] at q1
      obtain ⟨z, hz, rfl⟩ := Option.map_eq_some_iff.mp q1
      have := List.getElem?_eq_some_iff.mp hz
      obtain ⟨hlt, he⟩ := this
      rw [List.getElem_range] at he
      rw [List.length_range] at hlt
      omega
    have ho : o = dr1 ns a b kk := by
      rw [hdr, List.getElem?_map, q1] at q2
      exact (Option.some.inj q2).symm
    subst ho
    have ml := menu_len b
    intro t C oC m₂ s' nw hN hx S' hsb hC
    show wpAny _ _ (eval (.Subscript (.Name "menu" _) (.BinOp (.Call (.Name "_law_cell" _) [.Name "script" _, .BinOp (.Name "at" _) .Add (.Name "spot" _) _] [] _) .Mod (.Call (.Name "len" _) [.Name "menu" _] [] _) _) _) _) _ _ _
    refine Subscript_ (PySem.W.lcf_cell S'.N rfl (hsb _ (.head _)) dM' ?_ rfl (by rw [hEn2]; with_unfolding_all rfl) (by decide))
    refine wpAny_BinOp ?_
    show wpAny _ _ (eval (.Name "_law_cell" _) _ >>= fun fv => callWith _ fv [] (backTo _ (starEach [.Name "script" _, .BinOp (.Name "at" _) .Add (.Name "spot" _) _] _)) (backToKw _ (keywordEach [] _))) _ _ _
    refine wpAny_bind (nameC_K S' HC.name (callWith_K c'.X kc ?_ (plain_star (r := [.BinOp (.Name "at" _) .Add (.Name "spot" _) _]) (env := compEnvC _ _ _ c'.env) rfl) (plain_any rfl)) rfl (by rw [hEn2]; with_unfolding_all rfl) (by decide))
    rw [plain_star (r := [.BinOp (.Name "at" _) .Add (.Name "spot" _) _]) (env := compEnvC _ _ _ c'.env) rfl]
    refine Calls.spliced_cons (PySem.W.lcf_cell S'.N rfl (hsb _ (.tail _ hmS')) dS (Calls.spliced_cons (wpAny_BinOp (PySem.W.lcf_cell S'.N rfl (hsb _ (.tail _ hmA')) dA ?_ rfl (by rw [hEn2]; with_unfolding_all rfl) (by decide)))) rfl (by rw [hEn2]; with_unfolding_all rfl) (by decide))
    obtain ⟨ta, rfl⟩ := r2
    refine lc_name hN hx S' hC rfl (by rw [hEn2]; with_unfolding_all rfl) (by decide) (opI_s (o := .Add) (P := (· = .int (a + kk))) rfl fun tt i tk hi => ?_)
    cases hi
    refine Calls.spliced_nil ⟨c'.X.keeps S'.F.keep, ?_⟩
    refine c_cell H ⟨ns, a + kk, rfl, rfl, hns, by omega, by omega⟩ c' _ _ { s' with toks := tk } [w1, _] _ S' (RLc (fun p hp => hsb _ (.tail _ hp)) ⟨_, rfl⟩) fun v x nw12 h12 tk12 hx12 hr12 hs12 S12 => ?_
    subst hx12
    obtain ⟨tc, rfl⟩ := hr12
    show wpAny _ _ (eval (.Name "len" _) _ >>= fun fv => callWith _ fv [] (backTo _ (starEach [.Name "menu" _] _)) (backToKw _ (keywordEach [] _))) _ _ _
    refine wpAny_bind (nameC_B S12 H.nlen (by decide +kernel : bootBuiltins "len" = some (.builtin "len")) (by decide) (Calls.callWith_builtin rfl (Calls.evalArgs_plain ?_)) rfl (by rw [hEn2]; with_unfolding_all rfl) (by decide))
    refine Calls.spliced_cons (PySem.W.lcf_cell S12.N rfl (hs12 _ (hsb _ (.head _))) dM' (Calls.spliced_nil ?_) rfl (by rw [hEn2]; with_unfolding_all rfl) (by decide))
    have rM : R c'.h₀ l' (.ref D) (.own (menu b)) := ⟨D, _, _, rfl, hmD', hi10⟩
    have s12 : Sub l' nw12 := fun p hp => hs12 _ (hsb _ (.tail _ hp))
    refine b_len (g := g) (d := 1) ⟨.own (menu b), (menu b).length, rfl, .inr (.inr ⟨_, rfl, rfl⟩), rfl, by omega⟩ c' nw12 _ { s' with heap := h12, toks := tk12 } [_] _ S12 ⟨_, _, rfl, rM.sub s12, rfl⟩ fun v x nw13 h13 tk13 hx hr13 hs13 S13 => ?_
    subst hx
    obtain ⟨tl, rfl⟩ := hr13
    refine opI_s (s := { s' with heap := h13, toks := tk13 }) (o := .Mod) (P := (· = .int ((cell ns (a + kk)).fmod (menu b).length))) ⟨by omega, rfl⟩ fun tt2 i tk2 hi => ?_
    cases hi
    have f0 : 0 ≤ (cell ns (a + kk)).fmod (menu b).length := Int.fmod_nonneg_of_pos _ (by omega)
    have f1 : (cell ns (a + kk)).fmod (menu b).length < (menu b).length := Int.fmod_lt_of_pos _ (by omega)
    refine sub_s (a := .own (menu b)) (b := .int ((cell ns (a + kk)).fmod (menu b).length)) (P := (· = .int (dr1 ns a b kk))) ⟨⟨⟨f0, f1⟩, by omega⟩, rfl⟩ (rM.sub (s12.trans hs13)) ⟨_, rfl⟩ rfl S13.F S13.N fun v c tk hc hr => ?_
    subst hc
    obtain ⟨tv, rfl⟩ := hr
    exact ⟨tv, h13, tk, nw13, rfl, rfl, S13, hs12.trans hs13⟩
  · subst hx
    refine Calls.spliced_nil ?_
    refine b_bytes (g := g) (d := 1) ⟨drawn ns a b, rfl, rfl, fun i hi => ?_, Nat.le_trans (drawn_len ns a b) (by decide)⟩ c' nw12 _ { s with heap := h12, toks := tk12 } [v] _ S12 ⟨_, _, rfl, hr12, rfl⟩ fun v2 x nw13 h13 tk13 hx hr13 hs13 S13 => ?_
    · unfold drawn at hi
      obtain ⟨j, _, rfl⟩ := List.mem_map.mp hi
      exact dr1_in ns a b j
    · subst hx
      exact kont _ v2 _ nw13 h13 tk13 rfl S13 (fun p hp => hs13 p (hs12 p (.tail _ (hsub p hp)))) hr13

theorem putL_ref {n : Str} {h : Int} {t : Tok} {v : Value} : ∀ {es : List DictEntry}, es.any (·.refKey) = false → (putL n h (.str n t) v es).any (·.refKey) = false
  | [], _ => rfl
  | e :: r, q => by
    rw [List.any_cons, Bool.or_eq_false_iff] at q
    unfold putL
    split
    · rw [List.any_cons, Bool.or_eq_false_iff]; exact ⟨q.1, q.2⟩
    · rw [List.any_cons, Bool.or_eq_false_iff]; exact ⟨q.1, putL_ref q.2⟩
theorem putL_len {n : Str} {h : Int} {k v : Value} : ∀ {es : List DictEntry}, (putL n h k v es).length ≤ es.length + 1
  | [] => Nat.le_refl _
  | e :: r => by
    unfold putL
    split
    · exact Nat.le_succ _
    · exact Nat.succ_le_succ putL_len
theorem putL_find_ne {n k : Str} {h : Int} {t : Tok} {v : Value} (hn : n ≠ k) : ∀ {es : List DictEntry}, (putL n h (.str n t) v es).find? (·.key.isStr k) = es.find? (·.key.isStr k)
  | [] => by
    have : (Value.str n t).isStr k = false := beq_eq_false_iff_ne.mpr hn
    show (List.find? (fun e : DictEntry => e.key.isStr k) [(⟨h, .str n t, v⟩ : DictEntry)]) = none
    rw [List.find?_cons]
    dsimp only
    rw [this]; rfl
  | ⟨eh, ek, ev⟩ :: r => by
    unfold putL
    split
    · rename_i q
      have : ek.isStr k = false := by
        cases ek with
        | str s u =>
          have z : s = n := beq_iff_eq.mp q
          exact beq_eq_false_iff_ne.mpr (z ▸ hn)
        | _ => rfl
      rw [List.find?_cons, List.find?_cons]
      dsimp only
      rw [this]
    · rw [List.find?_cons, List.find?_cons, putL_find_ne hn]
theorem getL_put {n k : Str} {h : Int} {t : Tok} {v : Value} {x : Option Value} {es : List DictEntry} (hn : n ≠ k) (hr : es.any (·.refKey) = false) (e : getL k es = some (some v)) {u : Value} : getL k (putL n h (.str n t) u es) = some (some v) := by
  unfold getL at e ⊢
  rw [putL_find_ne hn]
  cases q : es.find? (·.key.isStr k) with
  | none => rw [q, hr] at e; cases e
  | some z => rw [q] at e; exact e
theorem getL_some {k : Str} {es : List DictEntry} (hr : es.any (·.refKey) = false) : (getL k es).isSome = true := by
  unfold getL
  split
  · rfl
  · rw [hr]; rfl
noncomputable abbrev limNs : List Str := ["width", "registers", "upvalues", "local_names", "ccalls", "frames", "stack", "flush", "steps", "text"]
/-- what the written part says of the class Limits -/
structure GY (g : Gl) : Prop where
  mks : makesIn g.K 46 = true
  fi : findIn g.K (.ref 46) "__init__" = some (some (.ref 29))
  fn : isFn g.K (.ref 29) = true
  keep : keepIn g.K (.ref 46) = true
  nam : nsIn g.K mainGlobals "Limits" = some (some (.ref 46))
  it : ∃ oc od doc pm an cdv ct osl, g.K.lookup 29 = some ⟨oc, od, .func (fnOf "__init__" "Limits.__init__" (mps 2 0) (mbd 2 0) (msc 2 0) (.ref 22) .none doc pm an cdv ct), osl⟩ ∧ codeIn g.K cdv "Limits.__init__" = true
  df : g.K.lookup 22 = some { cls := Value.type "tuple", data := Data.seq #[Value.int 64 203, Value.int 250 204, Value.int 60 205, Value.int 200 206, Value.int 40 207, Value.int 200 208, Value.int 2000 209, Value.int 50 210, Value.int 1000000000 211, Value.int 1000000 212] }
  sa : findIn g.K (.ref 46) "__setattr__" = some (some (.builtin "object.__setattr__"))
  po : plainOver g.K 46 = true
  hd : hasDictIn g.K 46 = true
  tk : limNs.all (fun n => takerIn g.K 46 n == some none) = true
section
variable {g : Gl} {d : Nat} {c : Cx g d} {news : List (Addr × Obj)} {m : Str → Option Value} {s : Shared}
/-- an instance's state while its attributes are stored -/
noncomputable def LS (c : Cx g d) (news : List (Addr × Obj)) (x dx : Addr) (w : Int) (k : Nat) (m : Str → Option Value) (h : Heap) : Prop :=
  ∃ es n t, St c ((x, instObj 46 dx) :: (dx, dictOf es n) :: news) m h ∧ es.any (·.refKey) = false ∧ es.length ≤ k ∧ getL "width" es = some (some (.int w t))
theorem lim_store {x dx : Addr} {es : List DictEntry} {n : Nat} {y : Str} {u : Value} {p1 p2 p3 p4 : Pos} {rest : List Stmt} {E : Value → Shared → Prop} {Q : Flow → Shared → Prop} (hY : GY g) (hlt : ∀ p ∈ news, p.1 < dx) (hx : dx < x) (S : St c ((x, instObj 46 dx) :: (dx, dictOf es n) :: news) m s.heap) (hr : es.any (·.refKey) = false) (hz : es.length ≤ 500)
    (hs : m "self" = some (.ref x)) (hu : m y = some u) (hls : c.cs.names.lookup ("self" : Str) = some .local) (hly : c.cs.names.lookup y = some .local) (hdb : (y == ("__debug__" : Str)) = false) (hy : y ∈ limNs)
    (k : ∀ h' tk n' hs tk0, St c ((x, instObj 46 dx) :: (dx, dictOf (putL y hs (.str y tk0) u es) n') :: news) m h' → wpAny (W g) c.A (execs rest c.env) Q E { s with heap := h', toks := tk }) :
    wpAny (W g) c.A (execs (.Assign [.Attribute (.Name "self" p1) y p2] (.Name y p3) p4 :: rest) c.env) Q E s := by
  refine wpAny_execs_cons (plainObj_wpAny_Assign_Attribute (nameX_L S.F hu (nameX_L S.F hs ?_ c.hk hls (by decide)) c.hk hly hdb) rfl)
  refine set_dict S.F c.X S.N (InstAt.of_news S.N (.head _) (.tail _ (.head _))) rfl hY.sa hY.po (beq_iff_eq.mp (List.all_eq_true.mp hY.tk y hy)) hY.hd (getL_some hr) rfl (.tail (Ne.symm (Nat.ne_of_lt hx)) (.head fun p hp => Nat.ne_of_lt (hlt p hp))) (Nat.le_trans putL_len (by omega)) fun h' F' N' => ?_
  exact k h' _ _ _ _ ⟨F', N'⟩
theorem lim_step {x dx : Addr} {w : Int} {k : Nat} {y : Str} {u : Value} {p1 p2 p3 p4 : Pos} {rest : List Stmt} {E : Value → Shared → Prop} {Q : Flow → Shared → Prop} (hY : GY g) (hlt : ∀ p ∈ news, p.1 < dx) (hx : dx < x) (hs : m "self" = some (.ref x)) (hls : c.cs.names.lookup ("self" : Str) = some .local)
    (S : LS c news x dx w k m s.heap) (hk : k ≤ 500) (hu : m y = some u) (hly : c.cs.names.lookup y = some .local) (hy : y ∈ limNs) (hne : y ≠ "width") (hdb : (y == ("__debug__" : Str)) = false)
    (kt : ∀ h' tk, LS c news x dx w (k + 1) m h' → wpAny (W g) c.A (execs rest c.env) Q E { s with heap := h', toks := tk }) :
    wpAny (W g) c.A (execs (.Assign [.Attribute (.Name "self" p1) y p2] (.Name y p3) p4 :: rest) c.env) Q E s := by
  obtain ⟨es, n, t, S', hr, hlen, hg⟩ := S
  exact lim_store hY hlt hx S' hr (Nat.le_trans hlen hk) hs hu hls hly hdb hy fun h' tk n' hsh tk0 S2 => kt h' tk ⟨_, n', t, S2, putL_ref hr, Nat.le_trans putL_len (Nat.succ_le_succ hlen), getL_put (x := none) hne hr hg⟩
theorem under_kw (c : Cx g (d + 1)) (kw : List (Str × Value)) : c.A.under (.builtin "type.__call__" ⟨[.ref 46], kw⟩) = c.made.A := by
  have h1 : (Code.builtin "type.__call__" ⟨[.ref 46], kw⟩).weight = 1 := by
    have : (Code.builtin "type.__call__" ⟨[.ref 46], kw⟩).isGuard = false := by show guardIds.contains "type.__call__" = false; decide +kernel
    unfold Code.weight
    rw [this]
    rfl
  have h2 : (Code.builtin "type.__call__" ⟨[.ref 46], kw⟩).guards = [] := by
    unfold Code.guards
    rw [if_neg (by show ¬ guardIds.contains "type.__call__" = true; decide +kernel)]
  unfold Around.under
  rw [h1, h2]
  rfl
theorem lim_make {c : Cx g (d + 2)} {w : Int} {t : Tok} {Q : Value → Shared → Prop} (hY : GY g) (S : St c news m s.heap) (k : Kt c news m s (· = .lim w) Q) : wpAny (W g) c.A (call (.ref 46) [] [("width", .int w t)]) Q noE s := by
  refine call_cls S.F c.X S.N hY.mks hY.fi hY.fn fun x dx h1 F1 N1 hlt hx => ?_
  rw [under_kw]
  obtain ⟨oc, od, doc, pm, an, cdv, ct, osl, ho, hcd⟩ := hY.it
  have hlk : ∀ y ∈ ("self" : Str) :: limNs, (msc 2 0).names.lookup y = some .local := by decide +kernel
  obtain ⟨c1, hc1⟩ : ∃ c1 : Cx g (d + 1), c1 = c.made := ⟨_, rfl⟩
  rw [← hc1]
  have S1 : St c1 ((x, instObj 46 dx) :: (dx, dictOf [] 0) :: news) m h1 := by subst hc1; exact ⟨F1, N1⟩
  have hR : c1.h₀ = c.h₀ := by rw [hc1]; rfl
  have hL : c1.L = c.L := by rw [hc1]; rfl
  refine code_def (binds := [("self", .ref x), ("width", .int w t), ("registers", .int 250 204), ("upvalues", .int 60 205), ("local_names", .int 200 206), ("ccalls", .int 40 207), ("frames", .int 200 208), ("stack", .int 2000 209), ("flush", .int 50 210), ("steps", .int 1000000000 211), ("text", .int 1000000 212)]) c1.B S1.F c1.X S1.N c1.T rfl rfl c1.hk ho hcd (Nat.lt_of_le_of_lt (Nat.le_add_right _ _) c1.hd) (binds_K (c1.X.keeps S1.F.keep) rfl hY.df rfl rfl rfl) (fun y hy => ?_) (fun g' L' h2 FG F N B X T => ?_) (by decide +kernel) (by decide +kernel) (by decide +kernel) (by decide +kernel)
  · exact (locs (scope := msc 2 0) (binds := [("self", .ref x), ("width", .int w t), ("registers", .int 250 204), ("upvalues", .int 60 205), ("local_names", .int 200 206), ("ccalls", .int 40 207), ("frames", .int 200 208), ("stack", .int 2000 209), ("flush", .int 50 210), ("steps", .int 1000000000 211), ("text", .int 1000000 212)]) (by with_unfolding_all rfl)) y hy
  obtain ⟨mm, hmm⟩ : ∃ mm : Str → Option Value, mm = fun y => List.lookup y ([("self", .ref x), ("width", .int w t), ("registers", .int 250 204), ("upvalues", .int 60 205), ("local_names", .int 200 206), ("ccalls", .int 40 207), ("frames", .int 200 208), ("stack", .int 2000 209), ("flush", .int 50 210), ("steps", .int 1000000000 211), ("text", .int 1000000 212)] : List (Str × Value)).reverse := ⟨_, rfl⟩
  obtain ⟨c', hcp⟩ : ∃ c' : Cx g d, c' = { dp := c1.dp + 1, un := c1.un + 3, gd := c1.gd, cn := "Limits.__init__", cs := msc 2 0, L := L', a := 29, ccd := cdv, cl := [], outer := c1.env :: c1.outer, A₀ := c1.A, base := c1.base, h₀ := g', B := B, X := X, T := T, hk := by decide +kernel, hd := by have := c1.hd; omega, hu := by have := c1.hu; omega, ht := fun e => Bool.noConfusion (e.symm.trans (by decide +kernel : ((msc 2 0).names.lookup ("turn" : Str) == some NameKind.local) = false)), XB := c1.XB, TB := c1.TB } := ⟨_, rfl⟩
  have hEn : envOf "Limits.__init__" (msc 2 0) L' 29 cdv = c'.env := by subst hcp; rfl
  have hAd : c1.A.deeper (envOf "Limits.__init__" (msc 2 0) L' 29 cdv) = c'.A := by subst hcp; rfl
  rw [hAd, hEn]
  have lk : ∀ y ∈ ("self" : Str) :: limNs, c'.cs.names.lookup y = some .local := by subst hcp; exact hlk
  have S2 : St c' ((x, instObj 46 dx) :: (dx, dictOf [] 0) :: news) mm h2 := by subst hcp hmm; exact ⟨F, N⟩
  have hs : mm "self" = some (.ref x) := by rw [hmm]; rfl
  have fin : ∀ h' tk, LS c' news x dx w 10 mm h' → LeaveK c1.h₀ c1.L m g' (InitBack x fun r s' => match r with | .ok (.ret v) => Q v s' | .ok _ => False | .error e => noE e s') .none { s with heap := h', toks := tk } := fun h' tk SL => by
    obtain ⟨es, n, t', S3, -, -, hg⟩ := SL
    subst hcp
    refine leaveK_ S3.F S3.N fun F4 N4 => ⟨rfl, ?_⟩
    subst hc1
    exact k (.ref x) _ _ h' tk rfl ⟨x, dx, es, n, t', rfl, .head _, .tail _ (.head _), hg⟩ (fun p hp => .tail _ (.tail _ hp)) ⟨F4, N4⟩
  obtain ⟨LQ, hLQ⟩ : ∃ LQ : Flow → Shared → Prop, LQ = fun fl s' => LeaveK c1.h₀ c1.L m g' (InitBack x fun r s' => match r with | .ok (.ret v) => Q v s' | .ok _ => False | .error e => noE e s') (match fl with | .ret v => v | _ => .none) s' := ⟨_, rfl⟩
  refine wpAny_mono (Q := LQ) (E := noE) ?_ (fun _ _ z => by subst hLQ; exact z) fun _ _ z => z.elim
  show wpAny _ _ (execs (.Assign [.Attribute (.Name "self" _) "width" _] (.Name "width" _) _ :: .Assign [.Attribute (.Name "self" _) "registers" _] (.Name "registers" _) _ :: .Assign [.Attribute (.Name "self" _) "upvalues" _] (.Name "upvalues" _) _ :: .Assign [.Attribute (.Name "self" _) "local_names" _] (.Name "local_names" _) _ :: .Assign [.Attribute (.Name "self" _) "ccalls" _] (.Name "ccalls" _) _
    :: .Assign [.Attribute (.Name "self" _) "frames" _] (.Name "frames" _) _ :: .Assign [.Attribute (.Name "self" _) "stack" _] (.Name "stack" _) _ :: .Assign [.Attribute (.Name "self" _) "flush" _] (.Name "flush" _) _ :: .Assign [.Attribute (.Name "self" _) "steps" _] (.Name "steps" _) _ :: .Assign [.Attribute (.Name "self" _) "text" _] (.Name "text" _) _ :: []) c'.env) _ _ _
  refine lim_store (s := { s with heap := h2, toks := _ }) hY hlt hx S2 rfl (Nat.zero_le _) hs (by rw [hmm]; rfl) (lk _ (.head _)) (lk _ (.tail _ (.head _))) (by decide) (.head _) fun h3 tk3 n3 hs3 t3 S3 => ?_
  have z1 : LS c' news x dx w 1 mm h3 := ⟨_, _, t, S3, rfl, Nat.le_refl _, rfl⟩
  refine lim_step (s := { s with heap := _, toks := _ }) hY hlt hx hs (lk _ (.head _)) z1 (by decide) (by rw [hmm]; rfl) (lk _ (.tail _ (.tail _ (.head _)))) (.tail _ (.head _)) (by decide) (by decide) fun _ _ z2 => ?_
  refine lim_step (s := { s with heap := _, toks := _ }) hY hlt hx hs (lk _ (.head _)) z2 (by decide) (by rw [hmm]; rfl) (lk _ (.tail _ (.tail _ (.tail _ (.head _))))) (.tail _ (.tail _ (.head _))) (by decide) (by decide) fun _ _ z3 => ?_
  refine lim_step (s := { s with heap := _, toks := _ }) hY hlt hx hs (lk _ (.head _)) z3 (by decide) (by rw [hmm]; rfl) (lk _ (.tail _ (.tail _ (.tail _ (.tail _ (.head _)))))) (.tail _ (.tail _ (.tail _ (.head _)))) (by decide) (by decide) fun _ _ z4 => ?_
  refine lim_step (s := { s with heap := _, toks := _ }) hY hlt hx hs (lk _ (.head _)) z4 (by decide) (by rw [hmm]; rfl) (lk _ (.tail _ (.tail _ (.tail _ (.tail _ (.tail _ (.head _))))))) (.tail _ (.tail _ (.tail _ (.tail _ (.head _))))) (by decide) (by decide) fun _ _ z5 => ?_
  refine lim_step (s := { s with heap := _, toks := _ }) hY hlt hx hs (lk _ (.head _)) z5 (by decide) (by rw [hmm]; rfl) (lk _ (.tail _ (.tail _ (.tail _ (.tail _ (.tail _ (.tail _ (.head _)))))))) (.tail _ (.tail _ (.tail _ (.tail _ (.tail _ (.head _)))))) (by decide) (by decide) fun _ _ z6 => ?_
  refine lim_step (s := { s with heap := _, toks := _ }) hY hlt hx hs (lk _ (.head _)) z6 (by decide) (by rw [hmm]; rfl) (lk _ (.tail _ (.tail _ (.tail _ (.tail _ (.tail _ (.tail _ (.tail _ (.head _))))))))) (.tail _ (.tail _ (.tail _ (.tail _ (.tail _ (.tail _ (.head _))))))) (by decide) (by decide) fun _ _ z7 => ?_
  refine lim_step (s := { s with heap := _, toks := _ }) hY hlt hx hs (lk _ (.head _)) z7 (by decide) (by rw [hmm]; rfl) (lk _ (.tail _ (.tail _ (.tail _ (.tail _ (.tail _ (.tail _ (.tail _ (.tail _ (.head _)))))))))) (.tail _ (.tail _ (.tail _ (.tail _ (.tail _ (.tail _ (.tail _ (.head _)))))))) (by decide) (by decide) fun _ _ z8 => ?_
  refine lim_step (s := { s with heap := _, toks := _ }) hY hlt hx hs (lk _ (.head _)) z8 (by decide) (by rw [hmm]; rfl) (lk _ (.tail _ (.tail _ (.tail _ (.tail _ (.tail _ (.tail _ (.tail _ (.tail _ (.tail _ (.head _))))))))))) (.tail _ (.tail _ (.tail _ (.tail _ (.tail _ (.tail _ (.tail _ (.tail _ (.head _))))))))) (by decide) (by decide) fun _ _ z9 => ?_
  refine lim_step (s := { s with heap := _, toks := _ }) hY hlt hx hs (lk _ (.head _)) z9 (by decide) (by rw [hmm]; rfl) (lk _ (.tail _ (.tail _ (.tail _ (.tail _ (.tail _ (.tail _ (.tail _ (.tail _ (.tail _ (.tail _ (.head _)))))))))))) (.tail _ (.tail _ (.tail _ (.tail _ (.tail _ (.tail _ (.tail _ (.tail _ (.tail _ (.head _)))))))))) (by decide) (by decide) fun _ _ z10 => ?_
  refine wpAny_execs_nil ?_
  subst hLQ
  exact fin _ _ z10
end

section
variable {g : Gl} {d : Nat} {c : Cx g (d + 2)} {news : List (Addr × Obj)} {m : Str → Option Value} {s : Shared} {G : Tb} {ρ : Rho} {n : Nat}
theorem x_lim (hY : GY g) (hE : SE c G n) (hl : LocOk c.cs ρ) (S : St c news m s.heap) (ag : Ag c news ρ m) {np kp pos : Pos} {e : Expr} {w : Int} {Q : Value → Shared → Prop} (hg : c.cs.names.lookup ("Limits" : Str) = some .globalImplicit) (he : (wp G n).E e ρ (· = .int w)) (k : Kt c news m s (· = .lim w) Q) :
    wpAny (W g) c.A (eval (.Call (.Name "Limits" np) [] [⟨some "width", e, kp⟩] pos) c.env) Q noE s := by
  show wpAny _ _ (eval (.Name "Limits" np) c.env >>= fun fv => callWith pos fv [] (backTo pos (starEach [] c.env)) (backToKw pos (keywordEach [⟨some "width", e, kp⟩] c.env))) _ _ _
  refine wpAny_bind (nameX_K S.F c.X (topRead_of c.T) hY.nam (callWith_KW0 (env := c.env) (kws := [⟨some "width", e, kp⟩]) (pos := pos) c.X hY.keep rfl ?_ rfl) c.hk hg (by decide))
  show wpAny _ _ (evalAll [do let v ← eval e c.env; standAt pos; pure v]) _ _ _
  refine wpAny_evalAll_cons (wpAny_bind (hE e ρ _ news m s _ he hl S ag fun u x nw h1 tk1 hx hr hs S1 => ?_))
  subst hx
  obtain ⟨t, rfl⟩ := hr
  refine wpAny_bind (wpAny_standAt (wpAny_pure (wpAny_evalAll_nil (And.intro (c.X.keeps S1.F.keep) ?_))))
  exact lim_make (s := { s with heap := h1, toks := tk1 }) hY S1 fun v x nw2 h2 tk2 hx hr2 hs2 S2 => k v x nw2 h2 tk2 hx hr2 (hs.trans hs2) S2
end
noncomputable def arg2 (e : Expr) : Expr := match e with
  | .Call _ (_ :: _ :: a :: _) _ _ => a
  | _ => .Constant .none 0 default
noncomputable def cmpL (e : Expr) : Expr := match e with
  | .Compare a _ _ _ => a
  | _ => .Constant .none 0 default
noncomputable section
noncomputable abbrev eLm1 : Expr := svOf ((fbd 37)[1]?)
noncomputable abbrev eLm2 : Expr := arg2 (cmpL (svOf ((fbd 34)[4]?)))
end
noncomputable def spLm1 (ρ : Rho) (v : V) : Prop := ∃ w, lkp ρ "width" = some (.int w) ∧ v = .lim w
noncomputable def spLm2 (ρ : Rho) (v : V) : Prop := v = .lim 400
theorem o_lm1 {g : Gl} (hY : GY g) {sc : Scope} (hg : sc.names.lookup ("Limits" : Str) = some .globalImplicit) : OrOk g 2 sc eLm1 spLm1 := by
  intro c news ρ m s v Q hc ⟨w, ew, hv⟩ hl S ag k
  subst hc hv
  obtain ⟨hE, -, -, -, -, -⟩ := s_all (c := c) (G := tb []) gok0 8
  show wpAny _ _ (eval (.Call (.Name "Limits" _) [] [⟨some "width", .Name "width" _, _⟩] _) c.env) _ _ _
  exact x_lim hY hE hl S ag hg (by show Option.casesOn (motive := fun _ => Prop) (lkp ρ "width") _ _; rw [ew]) k
theorem o_lm2 {g : Gl} (hY : GY g) {sc : Scope} (hg : sc.names.lookup ("Limits" : Str) = some .globalImplicit) : OrOk g 2 sc eLm2 spLm2 := by
  intro c news ρ m s v Q hc hv hl S ag k
  subst hc
  cases hv
  obtain ⟨hE, -, -, -, -, -⟩ := s_all (c := c) (G := tb []) gok0 8
  show wpAny _ _ (eval (.Call (.Name "Limits" _) [] [⟨some "width", .Constant (.int 400) _ _, _⟩] _) c.env) _ _ _
  exact x_lim hY hE hl S ag hg rfl k

noncomputable abbrev wd (b : Int) : Int := if b = 0 then 10 else b
theorem caps_len (l : List Int) : (caps l).length = l.length := by unfold caps; rw [List.length_map]
theorem dgs_le (n b : Int) : (dgs n b).length ≤ 401 := Nat.le_trans (dgs_len n b) (by decide)
theorem oct_oct {n b : Int} (hb : 2 ≤ b) : ∀ i ∈ oct n b, 0 ≤ i ∧ i < 256 := fun i hi => by
  unfold oct at hi
  rcases List.mem_append.mp hi with hi | hi
  · split at hi
    · rw [List.mem_singleton.mp hi]; decide
    · cases hi
  · obtain ⟨j, _, rfl⟩ := List.mem_map.mp hi
    exact dch_in j
theorem ldi_le {b : Int} (hb : 2 ≤ b) (k : Nat) {n : Int} (h : n < 2 ^ k) : ∀ j, (ldi b j n).length ≤ k := fun j => by
  rcases Nat.le_total j k with hj | hj
  · exact Nat.le_trans (ldi_len b j n) hj
  · have : (2 : Int) ^ k ≤ 2 ^ j := by
      have := Nat.pow_le_pow_right (show 0 < 2 by decide) hj
      have e1 : ((2 ^ k : Nat) : Int) = 2 ^ k := Int.natCast_pow 2 k
      have e2 : ((2 ^ j : Nat) : Int) = 2 ^ j := Int.natCast_pow 2 j
      omega
    rw [ldi_fuel hb j k n (by omega) h]
    exact ldi_len b k n
theorem oct_len {n b : Int} (h0 : -(2 ^ 60) < n) (h1 : n < 2 ^ 60) (hb : 2 ≤ b) : (oct n b).length ≤ 61 := by
  have h : ∀ m : Int, m < 2 ^ 60 → (dgs m b).length ≤ 60 := fun m hm => by
    unfold dgs
    rw [List.length_reverse]
    split
    · decide
    · exact ldi_le hb 60 hm 400
  unfold oct
  rw [List.length_append, List.length_map]
  have := h (if n < 0 then -n else n) (by split <;> omega)
  have : (if n < 0 then ([45] : List Int) else []).length ≤ 1 := by split <;> decide
  omega
theorem tp (w : Int) : (2 : Int) ^ w.toNat = ((2 ^ w.toNat : Nat) : Int) := (Int.natCast_pow 2 _).symm
theorem tw {w : Int} (hw : 1 ≤ w) : (2 : Int) ^ w.toNat = 2 * 2 ^ (w - 1).toNat := by
  rw [show w.toNat = (w - 1).toNat + 1 from by omega, Int.pow_succ, Int.mul_comm]
theorem wr_rng {w : Int} (hw : 1 ≤ w) (n : Int) : -(2 ^ (w - 1).toNat) ≤ wr w n ∧ wr w n < 2 ^ (w - 1).toNat := by
  have e := tw hw
  have p : (0 : Int) < 2 ^ (w - 1).toNat := Int.pow_pos (by decide)
  have hp : 0 < 2 ^ w.toNat := Nat.pow_pos (by decide)
  have e2 := tp w
  have a := Int.le_bmod (x := n) hp
  have b := Int.bmod_lt (x := n) hp
  show -(2 ^ (w - 1).toNat) ≤ n.bmod (2 ^ w.toNat) ∧ n.bmod (2 ^ w.toNat) < 2 ^ (w - 1).toNat
  omega
theorem wr_small {w n : Int} (hw : 1 ≤ w) (h0 : -(2 ^ (w - 1).toNat) ≤ n) (h1 : n < 2 ^ (w - 1).toNat) : wr w n = n := by
  have e := tw hw
  have e2 := tp w
  exact Int.bmod_eq_of_le (by omega) (by omega)
theorem wr_bd4 {w : Int} (hw : 1 ≤ w) (hw2 : w ≤ 400) (n : Int) : -(2 ^ 400) < wr w n ∧ wr w n < 2 ^ 400 := wr_bd hw2
theorem ring_laws (a b w : Int) : wr w (a + b) = wr w (wr w a + wr w b) ∧ wr w (a * b) = wr w (wr w a * wr w b) ∧ True :=
  ⟨by show Int.bmod _ _ = Int.bmod (Int.bmod _ _ + Int.bmod _ _) _; rw [Int.bmod_add_bmod, Int.add_bmod_bmod], by rw [wr_mulL, wr_mulR], trivial⟩
theorem nat400 {x : Int} (hx : -(2 ^ 400) < x ∧ x < 2 ^ 400) : x.natAbs < 2 ^ 400 := by
  have : ((2 ^ 400 : Nat) : Int) = 2 ^ 400 := Int.natCast_pow 2 400
  omega
theorem natmul {x y : Int} {j k : Nat} (hx : x.natAbs < 2 ^ j) (hy : y.natAbs < 2 ^ k) : (x * y).natAbs < 2 ^ (j + k) := by
  rw [Int.natAbs_mul, Nat.pow_add]
  exact Nat.mul_lt_mul_of_lt_of_le hx (Nat.le_of_lt hy) (Nat.pow_pos (by decide))
theorem big_xxx {x y : Int} (hx : -(2 ^ 400) < x ∧ x < 2 ^ 400) (hy : -(2 ^ 400) < y ∧ y < 2 ^ 400) : y.natAbs < Big ∧ (y * x).natAbs < Big ∧ (y * x * x).natAbs < Big := by
  have a := nat400 hx
  have b := nat400 hy
  exact ⟨big_of 400 b (by decide), big_of _ (natmul b a) (by decide), big_of _ (natmul (natmul b a) a) (by decide)⟩
theorem ring_pow (x w : Int) {c : Int} (hc : 0 ≤ c) : wr w (x ^ (c + 3).toNat) = wr w (wr w (x ^ c.toNat) * x * x * x) := by
  rw [Int.mul_assoc, Int.mul_assoc, wr_mulL, show (c + 3).toNat = c.toNat + 3 from by omega, Int.pow_add]
  congr 2
  rw [show (3 : Nat) = 1 + 1 + 1 from rfl, Int.pow_succ, Int.pow_succ, Int.pow_succ, Int.pow_zero, Int.one_mul, Int.mul_assoc]
theorem fmod_rng {y : Int} (hy : y ≠ 0) (x : Int) : (0 ≤ x.fmod y ∧ x.fmod y < y) ∨ (y < x.fmod y ∧ x.fmod y ≤ 0) := by
  by_cases h : 0 < y
  · exact .inl ⟨Int.fmod_nonneg_of_pos _ h, Int.fmod_lt_of_pos _ h⟩
  · have e : x.fmod y = -((-x).fmod (-y)) := by rw [Int.neg_fmod_neg, Int.neg_neg]
    have a := Int.fmod_nonneg_of_pos (-x) (show 0 < -y by omega)
    have b := Int.fmod_lt_of_pos (-x) (show 0 < -y by omega)
    exact .inr (by omega)
theorem fmod_small {w x y : Int} (hw : 1 ≤ w) (hy : y ≠ 0) (hyr : -(2 ^ (w - 1).toNat) ≤ y ∧ y < 2 ^ (w - 1).toNat) : wr w (x.fmod y) = x.fmod y := by
  have := fmod_rng hy x
  exact wr_small hw (by omega) (by omega)

theorem memB {o : Int} : o ∈ blanks ↔ (o = 32 ∨ (9 ≤ o ∧ o ≤ 13)) := by
  have : o ∈ blanks ↔ (o = 32 ∨ o = 9 ∨ o = 10 ∨ o = 11 ∨ o = 12 ∨ o = 13) := by simp [blanks]
  rw [this]; omega
theorem memBL {o : Int} : o ∈ blanksL ↔ o ∈ blanks := (by decide : blanksL.Perm blanks).mem_iff
theorem memG {o : Int} : o ∈ signsL ↔ (o = 43 ∨ o = 45) := by simp
theorem srB {o : Int} : srK o = "blank" ↔ o ∈ blanks := by
  have e : o ∈ blanksL ↔ o ∈ blanks := memBL
  unfold srK
  constructor
  · intro h
    split at h
    · rename_i q; exact e.mp q
    · split at h <;> exact absurd h (by decide)
  · intro h; rw [if_pos (e.mpr h)]
theorem srS {o : Int} (h : o ∉ blanks) : srK o = "sign" ↔ (o = 43 ∨ o = 45) := by
  have e : o ∉ blanksL := fun q => h (memBL.mp q)
  have e2 : o ∈ signsL ↔ (o = 43 ∨ o = 45) := memG
  unfold srK
  rw [if_neg e]
  constructor
  · intro h
    split at h
    · rename_i q; exact e2.mp q
    · exact absurd h (by decide)
  · intro h; rw [if_pos (e2.mpr h)]
theorem srD {o : Int} (h1 : o ∉ blanks) (h2 : ¬ (o = 43 ∨ o = 45)) : srK o = "digit" := by
  have e : o ∉ blanksL := fun q => h1 (memBL.mp q)
  have e2 : o ∉ signsL := fun q => h2 (memG.mp q)
  unfold srK
  rw [if_neg e, if_neg e2]
theorem dw_dg (o : Int) : (0 ≤ dg o ∧ dw o = dg o) ∨ (dg o = -1 ∧ dw o = 99) := by
  unfold dg dw
  by_cases h1 : 48 ≤ o ∧ o ≤ 57
  · rw [if_pos h1, if_pos h1]; exact .inl ⟨by omega, rfl⟩
  · rw [if_neg h1, if_neg h1]
    by_cases h2 : 97 ≤ o ∧ o ≤ 122
    · rw [if_pos h2, if_neg (by omega), if_pos h2]; exact .inl ⟨by omega, rfl⟩
    · rw [if_neg h2, if_neg h2]
      by_cases h3 : 65 ≤ o ∧ o ≤ 90
      · rw [if_pos h3, if_pos h3]; exact .inl ⟨by omega, rfl⟩
      · rw [if_neg h3, if_neg h3]; exact .inr ⟨rfl, rfl⟩
theorem dg_no {o : Int} (h : o ∈ blanks ∨ (o = 43 ∨ o = 45)) : dg o = -1 := by
  have : o < 48 := by
    rcases h with h | h
    · have := memB.mp h; omega
    · omega
  unfold dg
  rw [if_neg (by omega), if_neg (by omega), if_neg (by omega)]
/-- a digit of a base, by both readers -/
theorem sr_dg {o W : Int} (hW : W ≤ 36) : (srK o = "digit" ∧ srW o < W) ↔ ¬ (dg o < 0 ∨ W ≤ dg o) := by
  by_cases hb : o ∈ blanks
  · rw [srB.mpr hb, dg_no (.inl hb)]
    exact ⟨fun q => absurd q.1 (by decide), fun q => absurd (.inl (by decide)) q⟩
  · by_cases hs : o = 43 ∨ o = 45
    · rw [(srS hb).mpr hs, dg_no (.inr hs)]
      exact ⟨fun q => absurd q.1 (by decide), fun q => absurd (.inl (by decide)) q⟩
    · have e : o ∉ blanksL := fun q => hb (memBL.mp q)
      have e2 : o ∉ signsL := fun q => hs (memG.mp q)
      have e3 : srW o = dw o := by unfold srW; rw [if_neg e, if_neg e2]
      rw [srD hb hs, e3]
      rcases dw_dg o with ⟨h, e4⟩ | ⟨h, e4⟩
      · rw [e4]
        exact ⟨fun q z => z.elim (Int.not_lt.mpr h) (Int.not_le.mpr q.2), fun q => ⟨rfl, Int.not_le.mp fun z => q (.inr z)⟩⟩
      · rw [e4, h]
        exact ⟨fun q => absurd q.2 (Int.not_lt.mpr (Int.le_trans hW (by decide))), fun q => absurd (.inl (by decide)) q⟩
theorem sr_eq {o : Int} (h : ¬ dg o < 0) : srW o = dg o := by
  have hb : ¬ (o ∈ blanks ∨ (o = 43 ∨ o = 45)) := fun q => h (by rw [dg_no q]; decide)
  unfold srW
  rw [if_neg (fun q => hb (.inl (memBL.mp q))), if_neg (fun q => hb (.inr (memG.mp q)))]
  rcases dw_dg o with q | q
  · exact q.2
  · exact absurd (by rw [q.1]; decide) h
theorem lead_cons (o : Int) (r : List Int) : lead (o :: r) = if o ∈ blanks then lead r + 1 else 0 := rfl
section
variable {l : List Int} {b w sg W x : Int} {f : Option Int} {a : Nat}
theorem stp_behind : stp l b ⟨.behind, f, sg, a, W⟩ = if srK (l.getD a 0) = "blank" then some ⟨.behind, f, sg, a + 1, W⟩ else none := by
  unfold stp
  simp [isS]
theorem stp_inner : stp l b ⟨.inner, some x, sg, a, W⟩ = if srK (l.getD a 0) = "digit" ∧ srW (l.getD a 0) < W then some ⟨.inner, some (x * W + srW (l.getD a 0)), sg, a + 1, W⟩ else if srK (l.getD a 0) = "blank" then some ⟨.behind, some x, sg, a + 1, W⟩ else none := by
  unfold stp
  simp [isS]
theorem lrd_behind : ∀ (k a : Nat), a ≤ l.length → l.length ≤ a + k → lrd l b w k ⟨.behind, some x, sg, a, W⟩ = if a + lead (l.drop a) = l.length then .int (wr w (sg * x)) else .none
  | 0, a, h1, h2 => by
    have : a = l.length := by omega
    subst this
    rw [List.drop_length]
    exact (if_pos rfl).symm
  | k + 1, a, h1, h2 => by
    unfold lrd
    by_cases h : a < l.length
    · rw [if_pos (show (⟨.behind, some x, sg, a, W⟩ : Rs).a < l.length from h), stp_behind, drop_cons h, lead_cons]
      by_cases hb : l.getD a 0 ∈ blanks
      · rw [if_pos (srB.mpr hb), if_pos hb]
        show lrd l b w k _ = _
        rw [lrd_behind k (a + 1) (by omega) (by omega), Nat.add_assoc a 1, Nat.add_comm 1]
      · rw [if_neg (fun q => hb (srB.mp q)), if_neg hb, if_neg (by omega)]
    · have : a = l.length := by omega
      subst this
      rw [if_neg h, List.drop_length]
      exact (if_pos rfl).symm
theorem lrd_inner (hW : W ≤ 36) : ∀ (k a : Nat) (x : Int), a ≤ l.length → l.length ≤ a + k → lrd l b w k ⟨.inner, some x, sg, a, W⟩ = if a + (rd W x (l.drop a)).2 + lead (l.drop (a + (rd W x (l.drop a)).2)) = l.length then .int (wr w (sg * (rd W x (l.drop a)).1)) else .none
  | 0, a, x, h1, h2 => by
    have : a = l.length := by omega
    subst this
    rw [List.drop_length]
    show _ = if l.length + 0 + lead (l.drop (l.length + 0)) = l.length then _ else _
    rw [Nat.add_zero, List.drop_length]
    exact (if_pos rfl).symm
  | k + 1, a, x, h1, h2 => by
    unfold lrd
    by_cases h : a < l.length
    · rw [if_pos (show (⟨.inner, some x, sg, a, W⟩ : Rs).a < l.length from h), stp_inner, drop_cons h]
      by_cases hd : srK (l.getD a 0) = "digit" ∧ srW (l.getD a 0) < W
      · have q := (sr_dg hW).mp hd
        have e := sr_eq (fun z => q (.inl z))
        rw [if_pos hd]
        show lrd l b w k _ = _
        rw [lrd_inner hW k (a + 1) _ (by omega) (by omega), e]
        have e2 : rd W x (l.getD a 0 :: l.drop (a + 1)) = ((rd W (x * W + dg (l.getD a 0)) (l.drop (a + 1))).1, (rd W (x * W + dg (l.getD a 0)) (l.drop (a + 1))).2 + 1) := if_neg q
        rw [e2]
        dsimp only
        rw [show a + ((rd W (x * W + dg (l.getD a 0)) (l.drop (a + 1))).2 + 1) = a + 1 + (rd W (x * W + dg (l.getD a 0)) (l.drop (a + 1))).2 from by omega]
      · have q : dg (l.getD a 0) < 0 ∨ W ≤ dg (l.getD a 0) := Decidable.by_contra fun z => hd ((sr_dg hW).mpr z)
        have e2 : rd W x (l.getD a 0 :: l.drop (a + 1)) = (x, 0) := if_pos q
        rw [if_neg hd, e2]
        dsimp only
        have e3 := drop_cons h
        show _ = if a + lead (l.drop a) = l.length then _ else _
        rw [e3, lead_cons]
        by_cases hb : l.getD a 0 ∈ blanks
        · rw [if_pos (srB.mpr hb), if_pos hb]
          show lrd l b w k _ = _
          rw [lrd_behind k (a + 1) (by omega) (by omega), Nat.add_assoc a 1, Nat.add_comm 1]
        · rw [if_neg (fun q => hb (srB.mp q)), if_neg hb, if_neg (by omega)]
    · have : a = l.length := by omega
      subst this
      rw [if_neg h, List.drop_length]
      show _ = if l.length + 0 + lead (l.drop (l.length + 0)) = l.length then _ else _
      rw [Nat.add_zero, List.drop_length]
      exact (if_pos rfl).symm
end

section
variable {l : List Int} {b w sg W x : Int} {f : Option Int} {a : Nat}
theorem mkd_iff : mkd l a b ↔ isMk l a b ∧ (0 ≤ dg (l.getD (a + 2) 0) ∧ dg (l.getD (a + 2) 0) < 16) := by
  unfold mkd
  rw [sr_dg (by decide)]
  exact ⟨fun q => ⟨q.1, Int.not_lt.mp fun z => q.2 (.inl z), Int.not_le.mp fun z => q.2 (.inr z)⟩, fun q => ⟨q.1, fun z => z.elim (Int.not_lt.mpr q.2.1) (Int.not_le.mpr q.2.2)⟩⟩
/-- the start of the digits, no mark -/
theorem stp_start {st : Sta} (hst : st = .signed ∨ (st = .ahead ∧ srK (l.getD a 0) = "digit")) (hm : ¬ mkd l a b) : stp l b ⟨st, none, sg, a, W⟩ = if srK (l.getD a 0) = "digit" ∧ srW (l.getD a 0) < W then some ⟨.inner, some (0 * W + srW (l.getD a 0)), sg, a + 1, W⟩ else none := by
  rcases hst with rfl | ⟨rfl, h⟩
  · unfold stp
    simp [isS, hm]
  · have n1 : ¬ ("digit" : Str) = "sign" := by decide
    have n2 : ¬ ("digit" : Str) = "blank" := by decide
    unfold stp
    rw [h]
    simp [isS, hm, n1, n2]
theorem lrd_start (hW : W ≤ 36) {st : Sta} {k : Nat} (ha : a ≤ l.length) (hk : l.length ≤ a + k) (hst : st = .signed ∨ (st = .ahead ∧ (a < l.length → srK (l.getD a 0) = "digit"))) (hm : ¬ mkd l a b) :
    lrd l b w k ⟨st, none, sg, a, W⟩ = if (rd W 0 (l.drop a)).2 = 0 ∨ a + (rd W 0 (l.drop a)).2 + lead (l.drop (a + (rd W 0 (l.drop a)).2)) ≠ l.length then .none else .int (wr w (sg * (rd W 0 (l.drop a)).1)) := by
  by_cases h : a < l.length
  · cases k with
    | zero => omega
    | succ k =>
    unfold lrd
    rw [if_pos (show (⟨st, none, sg, a, W⟩ : Rs).a < l.length from h), stp_start (hst.imp id fun q => ⟨q.1, q.2 h⟩) hm, drop_cons h]
    by_cases hd : srK (l.getD a 0) = "digit" ∧ srW (l.getD a 0) < W
    · have q := (sr_dg hW).mp hd
      rw [if_pos hd]
      show lrd l b w k _ = _
      rw [lrd_inner hW k (a + 1) _ h (by omega), sr_eq (fun z => q (.inl z))]
      have e2 : rd W 0 (l.getD a 0 :: l.drop (a + 1)) = ((rd W (0 * W + dg (l.getD a 0)) (l.drop (a + 1))).1, (rd W (0 * W + dg (l.getD a 0)) (l.drop (a + 1))).2 + 1) := if_neg q
      rw [e2]
      dsimp only
      rw [show a + ((rd W (0 * W + dg (l.getD a 0)) (l.drop (a + 1))).2 + 1) = a + 1 + (rd W (0 * W + dg (l.getD a 0)) (l.drop (a + 1))).2 from by omega]
      generalize rd W (0 * W + dg (l.getD a 0)) (l.drop (a + 1)) = p
      by_cases z : a + 1 + p.2 + lead (l.drop (a + 1 + p.2)) = l.length
      · rw [if_pos z, if_neg (fun q => q.elim (Nat.succ_ne_zero _) fun y => y z)]
      · rw [if_neg z, if_pos (.inr z)]
    · have q : dg (l.getD a 0) < 0 ∨ W ≤ dg (l.getD a 0) := Decidable.by_contra fun z => hd ((sr_dg hW).mpr z)
      have e2 : rd W 0 (l.getD a 0 :: l.drop (a + 1)) = (0, 0) := if_pos q
      rw [if_neg hd, e2, if_pos (.inl rfl)]
  · have e : a = l.length := Nat.le_antisymm ha (Nat.not_lt.mp h)
    subst e
    rw [List.drop_length, if_pos (.inl rfl)]
    cases k with
    | zero => rfl
    | succ k => unfold lrd; rw [if_neg h]; rfl
theorem stp_mark {st : Sta} (hst : st = .signed ∨ (st = .ahead ∧ srK (l.getD a 0) = "digit")) (hm : mkd l a b) : stp l b ⟨st, none, sg, a, W⟩ = some ⟨.inner, none, sg, a + 2, 16⟩ := by
  rcases hst with rfl | ⟨rfl, h⟩
  · unfold stp
    simp [isS, hm]
  · have n1 : ¬ ("digit" : Str) = "sign" := by decide
    unfold stp
    rw [h]
    simp [isS, hm, n1]
theorem stp_in0 (h : srK (l.getD a 0) = "digit" ∧ srW (l.getD a 0) < W) : stp l b ⟨.inner, none, sg, a, W⟩ = some ⟨.inner, some (0 * W + srW (l.getD a 0)), sg, a + 1, W⟩ := by
  obtain ⟨h1, h2⟩ := h
  unfold stp
  rw [h1]
  simp only [isS, h2]
  simp
theorem sgv (bl : Bool) (v : Int) : (if bl = true then (-1 : Int) else 1) * v = if bl = true then -v else v := by cases bl <;> simp
theorem lrd_tibM {bl : Bool} {st : Sta} {k : Nat} (hb : b = 0 ∨ (2 ≤ b ∧ b ≤ 36)) (ha : a ≤ l.length) (hk : l.length ≤ a + k) (hst : st = .signed ∨ (st = .ahead ∧ (a < l.length → srK (l.getD a 0) = "digit"))) :
    lrd l b w k ⟨st, none, if bl = true then -1 else 1, a, wd b⟩ = tibM l a b bl w := by
  have hW : wd b ≤ 36 := by unfold wd; split <;> omega
  unfold tibM
  by_cases hm : mkd l a b
  · rw [if_pos (mkd_iff.mp hm)]
    have h2 : a + 2 < l.length := hm.1.1
    obtain ⟨k, rfl⟩ : ∃ j, k = j + 2 := ⟨k - 2, by omega⟩
    unfold lrd
    rw [if_pos (show (⟨st, none, if bl = true then -1 else 1, a, wd b⟩ : Rs).a < l.length from Nat.lt_trans (Nat.lt_add_of_pos_right (by decide)) h2), stp_mark (hst.imp id fun q => ⟨q.1, q.2 (by omega)⟩) hm]
    show lrd l b w (k + 1) _ = _
    unfold lrd
    rw [if_pos (show (⟨.inner, none, if bl = true then -1 else 1, a + 2, 16⟩ : Rs).a < l.length from h2), stp_in0 hm.2]
    show lrd l b w k _ = _
    have q := (sr_dg (W := 16) (by decide)).mp hm.2
    rw [lrd_inner (by decide) k (a + 2 + 1) _ h2 (by omega), sr_eq (fun z => q (.inl z))]
    unfold tibF
    rw [if_neg (show ¬ (16 : Int) = 0 by decide), drop_cons h2]
    have e2 : rd 16 0 (l.getD (a + 2) 0 :: l.drop (a + 2 + 1)) = ((rd 16 (0 * 16 + dg (l.getD (a + 2) 0)) (l.drop (a + 2 + 1))).1, (rd 16 (0 * 16 + dg (l.getD (a + 2) 0)) (l.drop (a + 2 + 1))).2 + 1) := if_neg q
    rw [e2]
    dsimp only
    rw [show a + 2 + ((rd 16 (0 * 16 + dg (l.getD (a + 2) 0)) (l.drop (a + 2 + 1))).2 + 1) = a + 2 + 1 + (rd 16 (0 * 16 + dg (l.getD (a + 2) 0)) (l.drop (a + 2 + 1))).2 from by omega]
    generalize rd 16 (0 * 16 + dg (l.getD (a + 2) 0)) (l.drop (a + 2 + 1)) = p
    have hs := sgv bl p.1
    by_cases z : a + 2 + 1 + p.2 + lead (l.drop (a + 2 + 1 + p.2)) = l.length
    · rw [if_pos z, if_neg (fun q : p.2 + 1 = 0 ∨ _ => q.elim (Nat.succ_ne_zero _) fun y => y z), hs]
    · rw [if_neg z, if_pos (.inr z)]
  · rw [if_neg (fun q => hm (mkd_iff.mpr q)), lrd_start hW ha hk hst hm, sgv]
    rfl
theorem stp_ahead (h : l.getD a 0 ∈ blanks) : stp l b ⟨.ahead, none, 1, a, W⟩ = some ⟨.ahead, none, 1, a + 1, W⟩ := by
  have hm : ¬ mkd l a b := fun q => by have := q.1.2.1; rw [this] at h; exact absurd h (by decide)
  have e := srB.mpr h
  have n1 : ¬ ("blank" : Str) = "sign" := by decide
  have n2 : ¬ ("blank" : Str) = "digit" := by decide
  unfold stp
  rw [e]
  simp [isS, hm, n1, n2]
theorem lrd_skip : ∀ (k a : Nat), a ≤ l.length → l.length ≤ a + k → ∃ k', l.length ≤ a + lead (l.drop a) + k' ∧ lrd l b w k ⟨.ahead, none, 1, a, W⟩ = lrd l b w k' ⟨.ahead, none, 1, a + lead (l.drop a), W⟩
  | 0, a, h1, h2 => by
    have e : a = l.length := Nat.le_antisymm h1 h2
    subst e
    rw [List.drop_length]
    exact ⟨0, Nat.le_refl _, rfl⟩
  | k + 1, a, h1, h2 => by
    by_cases h : a < l.length
    · by_cases hb : l.getD a 0 ∈ blanks
      · obtain ⟨k', e1, e2⟩ := lrd_skip k (a + 1) h (by omega)
        have e3 : a + lead (l.drop a) = a + 1 + lead (l.drop (a + 1)) := by rw [drop_cons h, lead_cons, if_pos hb]; omega
        refine ⟨k', by rw [e3]; exact e1, ?_⟩
        rw [e3, ← e2]
        show (if (⟨.ahead, none, 1, a, W⟩ : Rs).a < l.length then _ else _) = _
        rw [if_pos h, stp_ahead hb]
      · have e3 : lead (l.drop a) = 0 := by rw [drop_cons h, lead_cons, if_neg hb]
        exact ⟨k + 1, by rw [e3]; exact h2, by rw [e3]; rfl⟩
    · have e : a = l.length := Nat.le_antisymm h1 (Nat.not_lt.mp h)
      subst e
      rw [List.drop_length]
      exact ⟨k + 1, h2, rfl⟩
end
theorem lead_at : ∀ {l : List Int}, lead l < l.length → l.getD (lead l) 0 ∉ blanks
  | [], h => absurd h (by decide)
  | o :: r, h => by
    rw [lead_cons] at h ⊢
    by_cases hb : o ∈ blanks
    · rw [if_pos hb] at h ⊢
      have := lead_at (l := r) (Nat.lt_of_succ_lt_succ h)
      simpa using this
    · rw [if_neg hb]
      exact hb
theorem tibF_ov (l : List Int) (a : Nat) (b : Int) (bl : Bool) (w : Int) : ∃ p, tibF l a b bl w = ov p := by
  unfold tibF
  generalize (if b = 0 then 10 else b) = W
  split
  · exact ⟨none, rfl⟩
  · exact ⟨some _, rfl⟩
theorem tibM_ov (l : List Int) (a : Nat) (b : Int) (bl : Bool) (w : Int) : ∃ p, tibM l a b bl w = ov p := by unfold tibM; split <;> exact tibF_ov ..
theorem tib_ov (l : List Int) (b w : Int) : ∃ p, tib l b w = ov p := by unfold tib; split <;> exact tibM_ov ..
theorem stp_sign {l : List Int} {b W : Int} {a : Nat} (h : srK (l.getD a 0) = "sign") : stp l b ⟨.ahead, none, 1, a, W⟩ = some ⟨.signed, none, if l.getD a 0 = 45 then -1 else 1, a + 1, W⟩ := if_pos ⟨rfl, h⟩
theorem lrd_tib {l : List Int} {b : Int} (hb : b = 0 ∨ (2 ≤ b ∧ b ≤ 36)) (w : Int) : lrd l b w l.length ⟨.ahead, none, 1, 0, wd b⟩ = tib l b w := by
  obtain ⟨k, hk, e⟩ := lrd_skip (l := l) (b := b) (w := w) (W := wd b) l.length 0 (Nat.zero_le _) (Nat.le_add_left _ _)
  rw [List.drop_zero, Nat.zero_add] at hk e
  rw [e]
  unfold tib
  by_cases h : lead l < l.length
  · have hn := lead_at h
    by_cases hs : l.getD (lead l) 0 = 43 ∨ l.getD (lead l) 0 = 45
    · rw [if_pos ⟨h, hs⟩]
      obtain ⟨k, rfl⟩ : ∃ j, k = j + 1 := ⟨k - 1, by omega⟩
      show (if (⟨.ahead, none, 1, lead l, wd b⟩ : Rs).a < l.length then _ else _) = _
      rw [if_pos h, stp_sign ((srS hn).mpr hs)]
      show lrd l b w k ⟨.signed, none, if l.getD (lead l) 0 = 45 then -1 else 1, lead l + 1, wd b⟩ = _
      rw [← lrd_tibM (st := .signed) (k := k) hb h (by omega) (.inl rfl)]
      congr 2
      by_cases z : l.getD (lead l) 0 = 45
      · rw [if_pos z, if_pos (decide_eq_true z)]
      · rw [if_neg z, if_neg (by rw [decide_eq_false z]; decide)]
    · rw [if_neg (fun q => hs q.2)]
      exact lrd_tibM (bl := false) hb (lead_le l) hk (.inr ⟨rfl, fun _ => srD hn hs⟩)
  · rw [if_neg (fun q => h q.1)]
    exact lrd_tibM (bl := false) hb (lead_le l) hk (.inr ⟨rfl, fun q => absurd q h⟩)
theorem tib_lrd {l : List Int} {b : Int} (hb : b = 0 ∨ (2 ≤ b ∧ b ≤ 36)) (w : Int) : ∃ p, tib l b w = ov p ∧ lrd l b w l.length ⟨.ahead, none, 1, 0, wd b⟩ = ov p := by
  obtain ⟨p, e⟩ := tib_ov l b w
  exact ⟨p, e, (lrd_tib hb w).trans e⟩

theorem dch36 : ∀ j : Fin 36, dg (dch ((j : Nat) : Int)) = ((j : Nat) : Int) ∧ dch ((j : Nat) : Int) ∉ blanks ∧ ¬ (dch ((j : Nat) : Int) = 43 ∨ dch ((j : Nat) : Int) = 45) ∧ ((j : Nat) < 16 → dch ((j : Nat) : Int) ≠ 120 ∧ dch ((j : Nat) : Int) ≠ 88) ∧ ((j : Nat) < 10 → dch ((j : Nat) : Int) = 48 + ((j : Nat) : Int)) := by decide
theorem dch_ok {d : Int} (h0 : 0 ≤ d) (h1 : d < 36) : dg (dch d) = d ∧ dch d ∉ blanks ∧ ¬ (dch d = 43 ∨ dch d = 45) ∧ (d < 16 → dch d ≠ 120 ∧ dch d ≠ 88) ∧ (d < 10 → dch d = 48 + d) := by
  have q := dch36 ⟨d.toNat, by omega⟩
  have e : ((d.toNat : Nat) : Int) = d := Int.toNat_of_nonneg h0
  dsimp only at q
  rw [e] at q
  exact ⟨q.1, q.2.1, q.2.2.1, fun h => q.2.2.2.1 (by omega), fun h => q.2.2.2.2 (by omega)⟩
theorem ntx_oct {n : Int} (h0 : -(2 ^ 400) < n) (h1 : n < 2 ^ 400) : ntx n = oct n 10 := by
  unfold ntx oct
  congr 1
  refine List.map_congr_left fun d hd => ?_
  have := dgs_dig (b := 10) (by decide) _ d hd
  exact ((dch_ok this.1 (by omega)).2.2.2.2 this.2).symm
theorem rd_dch {W : Int} (hW : W ≤ 36) : ∀ (ds : List Int) (acc : Int), (∀ d ∈ ds, 0 ≤ d ∧ d < W) → rd W acc (ds.map dch) = (dval W acc ds, ds.length)
  | [], _, _ => rfl
  | d :: r, acc, h => by
    have hd := h d (.head _)
    have e := (dch_ok hd.1 (Int.lt_of_lt_of_le hd.2 hW)).1
    show (if dg (dch d) < 0 ∨ W ≤ dg (dch d) then (acc, 0) else ((rd W (acc * W + dg (dch d)) (r.map dch)).1, (rd W (acc * W + dg (dch d)) (r.map dch)).2 + 1)) = _
    rw [e, if_neg (fun z => z.elim (Int.not_lt.mpr hd.1) (Int.not_le.mpr hd.2)), rd_dch hW r _ fun d hd => h d (.tail _ hd)]
    rfl
theorem dgs_ne {n b : Int} : dgs n b ≠ [] := fun h => by
  unfold dgs at h
  rw [List.reverse_eq_nil_iff] at h
  split at h
  · cases h
  · rename_i q
    rw [show ldi b 400 n = n.fmod b :: ldi b 399 (n / b) from if_neg q] at h
    cases h
/-- text_in_base, at digits behind a sign or none -/
theorem tibM_dgs {b w : Int} {bl : Bool} {pre ds : List Int} (hb : b = 0 ∨ (2 ≤ b ∧ b ≤ 36)) (hd : ∀ d ∈ ds, 0 ≤ d ∧ d < wd b) (hne : ds ≠ []) : tibM (pre ++ ds.map dch) pre.length b bl w = .int (wr w (if bl = true then -(dval (wd b) 0 ds) else dval (wd b) 0 ds)) := by
  have hW : wd b ≤ 36 := by unfold wd; split <;> omega
  have hm : ¬ isMk (pre ++ ds.map dch) pre.length b := fun q => by
    have h1 := q.1
    have h2 := q.2.2.1
    have h3 : wd b ≤ 16 := by unfold wd; have := q.2.2.2; split <;> omega
    rw [List.length_append, List.length_map] at h1
    have hi : 1 < ds.length := by omega
    have e : (pre ++ ds.map dch).getD (pre.length + 1) 0 = dch ds[1] := by
      rw [List.getD_eq_getElem?_getD, List.getElem?_append_right (Nat.le_add_right _ _), Nat.add_sub_cancel_left, List.getElem?_map, List.getElem?_eq_getElem hi]
      rfl
    rw [e] at h2
    have hd1 := hd _ (List.getElem_mem hi)
    have := (dch_ok hd1.1 (by omega)).2.2.2.1 (by omega)
    exact h2.elim this.1 this.2
  unfold tibM
  rw [if_neg (fun q => hm q.1)]
  have ed : (pre ++ ds.map dch).drop pre.length = ds.map dch := List.drop_left
  have el : (pre ++ ds.map dch).drop (pre.length + ds.length) = [] := List.drop_of_length_le (by rw [List.length_append, List.length_map]; exact Nat.le_refl _)
  have e2 := rd_dch hW ds 0 hd
  unfold tibF
  rw [ed]
  change rd (if b = 0 then 10 else b) 0 (ds.map dch) = _ at e2
  rw [e2]
  dsimp only
  rw [el, if_neg]
  rintro (q | q)
  · exact hne (List.length_eq_zero_iff.mp q)
  · exact q (by rw [List.length_append, List.length_map]; rfl)
theorem tib_oct {n b : Int} (h0 : -(2 ^ 400) < n) (h1 : n < 2 ^ 400) (hb : b = 0 ∨ (2 ≤ b ∧ b ≤ 36)) (w : Int) : tib (oct n (wd b)) b w = .int (wr w n) := by
  have h2 : 2 ≤ wd b := by unfold wd; split <;> omega
  have hW : wd b ≤ 36 := by unfold wd; split <;> omega
  unfold oct
  by_cases hn : n < 0
  · rw [if_pos hn, if_pos hn]
    have hd := dgs_dig h2 (-n)
    show (if lead (45 :: (dgs (-n) (wd b)).map dch) < (45 :: (dgs (-n) (wd b)).map dch).length ∧ ((45 :: (dgs (-n) (wd b)).map dch).getD 0 0 = 43 ∨ (45 :: (dgs (-n) (wd b)).map dch).getD 0 0 = 45) then tibM ([45] ++ (dgs (-n) (wd b)).map dch) ([45] : List Int).length b true w else _) = _
    rw [if_pos ⟨Nat.succ_pos _, .inr rfl⟩, tibM_dgs hb hd dgs_ne, if_pos rfl, dval_dgs h2 (by omega) (by omega), Int.neg_neg]
  · rw [if_neg hn, if_neg hn]
    have hd := dgs_dig h2 n
    have hv := dval_dgs h2 (Int.not_lt.mp hn) h1
    generalize hD : dgs n (wd b) = D at *
    cases D with
    | nil => exact absurd hD dgs_ne
    | cons d r =>
    have q := dch_ok (hd d (.head _)).1 (Int.lt_of_lt_of_le (hd d (.head _)).2 hW)
    have el : lead ([] ++ (d :: r).map dch) = 0 := by show (if dch d ∈ blanks then _ else 0) = 0; rw [if_neg q.2.1]
    unfold tib
    rw [el, if_neg (fun z => q.2.2.1 z.2)]
    rw [show (0 : Nat) = ([] : List Int).length from rfl, tibM_dgs hb hd (List.cons_ne_nil _ _), hv]
    rfl
theorem tmod_eq (x y : Int) : (if 0 < x then (x.natAbs : Int) % (y.natAbs : Int) else -((x.natAbs : Int) % (y.natAbs : Int))) = x.tmod y := by
  have e : ((x.tmod y).natAbs : Int) = (x.natAbs : Int) % (y.natAbs : Int) := by rw [Int.natAbs_tmod]; rfl
  split
  · have := Int.tmod_nonneg y (show 0 ≤ x by omega)
    omega
  · have := Int.tmod_nonneg y (show 0 ≤ -x by omega)
    rw [Int.neg_tmod] at this
    omega
theorem arv_mod {a b w : Int} : arv oMod a b w = wr w (a.fmod b) := rfl
theorem ring_div {w x y : Int} (hw : 1 ≤ w) (hy : y ≠ 0) (hyr : -(2 ^ (w - 1).toNat) ≤ y ∧ y < 2 ^ (w - 1).toNat) :
    arv oMod x y w = x.fmod y ∧ (x - x.fmod y).fmod y = 0 ∧ wr w (wr w (x.tdiv y) * y) = wr w (x - if 0 < x then (x.natAbs : Int) % (y.natAbs : Int) else -((x.natAbs : Int) % (y.natAbs : Int))) := by
  refine ⟨arv_mod.trans (fmod_small hw hy hyr), ?_, ?_⟩
  · have := Int.fmod_add_mul_fdiv x y
    rw [show x - x.fmod y = y * x.fdiv y from by omega]
    exact Int.mul_fmod_right _ _
  · have := Int.tdiv_mul_add_tmod x y
    rw [tmod_eq, wr_mulL, show x - x.tmod y = x.tdiv y * y from by omega]

structure FbI (n x : Int) (t : Nat) : Prop where
  up : n ≤ x * 2 ^ t
  lo : 0 < n → (x - 1) * 2 ^ t < n
  ch : (t = 0 ∧ x = n) ∨ (8 ≤ x ∧ ∃ u, t = u + 1 ∧ 15 * 2 ^ u < n)
theorem p2 (t : Nat) : (0 : Int) < 2 ^ t := Int.pow_pos (by decide)
theorem fb_step {n x : Int} {t : Nat} (h : FbI n x t) (hx : 16 ≤ x) : FbI n ((x + 1) / 2) (t + 1) := by
  have p := p2 t
  have e : (2 : Int) ^ (t + 1) = 2 * 2 ^ t := by rw [Int.pow_succ, Int.mul_comm]
  have hn : 0 < n := by
    rcases h.ch with ⟨_, q⟩ | ⟨_, u, _, q⟩
    · omega
    · have := p2 u; omega
  have l1 := h.lo hn
  have a1 : x * 2 ^ t ≤ ((x + 1) / 2 * 2) * 2 ^ t := Int.mul_le_mul_of_nonneg_right (by omega) (Int.le_of_lt p)
  have a2 : (((x + 1) / 2 - 1) * 2) * 2 ^ t ≤ (x - 1) * 2 ^ t := Int.mul_le_mul_of_nonneg_right (by omega) (Int.le_of_lt p)
  have a3 : 15 * 2 ^ t ≤ (x - 1) * 2 ^ t := Int.mul_le_mul_of_nonneg_right (by omega) (Int.le_of_lt p)
  refine ⟨?_, fun _ => ?_, .inr ⟨by omega, t, rfl, Int.lt_of_le_of_lt a3 l1⟩⟩
  · rw [e, ← Int.mul_assoc]; exact Int.le_trans h.up a1
  · rw [e, ← Int.mul_assoc]; exact Int.lt_of_le_of_lt a2 l1
theorem fbl_ok {n : Int} : ∀ (k : Nat) (x : Int) (t : Nat), FbI n x t → x ≤ 15 * 2 ^ k → 0 ≤ x → ∃ (y : Int) (u : Nat), fbl k x (t : Int) = (y, (u : Int)) ∧ FbI n y u ∧ 0 ≤ y ∧ y ≤ 15 ∧ u ≤ t + k
  | 0, x, t, h, hx, h0 => ⟨x, t, rfl, h, h0, hx, Nat.le_refl _⟩
  | k + 1, x, t, h, hx, h0 => by
    by_cases q : 16 ≤ x
    · have e : (2 : Int) ^ (k + 1) = 2 * 2 ^ k := by rw [Int.pow_succ, Int.mul_comm]
      obtain ⟨y, u, e1, e2, e3, e4, e5⟩ := fbl_ok k ((x + 1) / 2) (t + 1) (fb_step h q) (by omega) (by omega)
      exact ⟨y, u, (if_pos q).trans e1, e2, e3, e4, by omega⟩
    · exact ⟨x, t, if_neg q, h, h0, by omega, by omega⟩
theorem bfv_at {t : Nat} {y : Int} (ht : t ≤ 30) (h0 : 0 ≤ y) (h1 : y < 8) : bfv ((t : Int) * 8 + y) = if t = 0 then y else (y + 8) * 2 ^ (t - 1) := by
  unfold bfv
  have e1 : ((t : Int) * 8 + y) / 8 = t := by omega
  have e2 : ((t : Int) * 8 + y) % 8 = y := by omega
  have e3 : (t : Int) % 32 = t := by omega
  rw [e1, e2, e3]
  by_cases h : t = 0
  · rw [if_pos h, if_pos (by omega)]; omega
  · rw [if_neg h, if_neg (by omega), show ((t : Int) - 1).toNat = t - 1 from by omega]
theorem fb_laws {n : Int} (h0 : 0 ≤ n) (h1 : n < 1000000) : 0 ≤ fbv n ∧ fbv n < 256 ∧ n ≤ bfv (fbv n) ∧ (0 < n → bfv (fbv n - 1) < n) := by
  obtain ⟨x, t, e, I, x0, x1, ht⟩ := fbl_ok (n := n) 20 n 0 ⟨by rw [Int.pow_zero]; omega, fun _ => by rw [Int.pow_zero]; omega, .inl ⟨rfl, rfl⟩⟩ (Int.le_trans (Int.le_of_lt h1) (by decide)) h0
  have e' : fbl 20 n 0 = (x, (t : Int)) := e
  have hf : fbv n = if x < 8 then x else ((t : Int) + 1) * 8 + (x - 8) := by unfold fbv; rw [e']
  clear e e'
  by_cases hx : x < 8
  · rw [if_pos hx] at hf
    have hn : x = n := by
      rcases I.ch with q | q
      · exact q.2
      · omega
    have b0 := bfv_at (t := 0) (y := n) (by decide) h0 (by omega)
    rw [if_pos rfl] at b0
    rw [hf, hn]
    have z : ((0 : Nat) : Int) * 8 + n = n := by omega
    rw [z] at b0
    refine ⟨h0, by omega, by omega, fun hp => ?_⟩
    have b1 := bfv_at (t := 0) (y := n - 1) (by decide) (by omega) (by omega)
    rw [if_pos rfl, show ((0 : Nat) : Int) * 8 + (n - 1) = n - 1 from by omega] at b1
    omega
  · rw [if_neg hx] at hf
    rw [hf]
    have b0 := bfv_at (t := t + 1) (y := x - 8) (by omega) (by omega) (by omega)
    rw [if_neg (Nat.succ_ne_zero t), Nat.add_sub_cancel, show x - 8 + 8 = x from by omega, show (((t + 1 : Nat) : Int)) = (t : Int) + 1 from rfl] at b0
    refine ⟨by omega, by omega, by rw [b0]; exact I.up, fun hp => ?_⟩
    by_cases h8 : 8 < x
    · have b1 := bfv_at (t := t + 1) (y := x - 9) (by omega) (by omega) (by omega)
      rw [if_neg (Nat.succ_ne_zero t), Nat.add_sub_cancel, show x - 9 + 8 = x - 1 from by omega, show (((t + 1 : Nat) : Int)) = (t : Int) + 1 from rfl] at b1
      rw [show ((t : Int) + 1) * 8 + (x - 8) - 1 = ((t : Int) + 1) * 8 + (x - 9) from by omega, b1]
      exact I.lo hp
    · have hx8 : x = 8 := by omega
      have b1 := bfv_at (t := t) (y := 7) (by omega) (by decide) (by decide)
      rw [show ((t : Int) + 1) * 8 + (x - 8) - 1 = (t : Int) * 8 + 7 from by omega, b1]
      have lo := I.lo hp
      rcases I.ch with ⟨q, _⟩ | ⟨_, u, q, q2⟩
      · rw [if_pos q]
        rw [q, Int.pow_zero] at lo
        omega
      · rw [if_neg (by omega), q, Nat.add_sub_cancel]
        exact q2
theorem half_n {n : Int} (h : 0 < n) : (n / 2).toNat = n.toNat / 2 := by omega
theorem two_n {n : Int} (h : 0 < n / 2) : 2 ≤ n.toNat := by omega
theorem one_n {n : Int} (h : ¬ 0 < n / 2) : ¬ 2 ≤ n.toNat := by omega
theorem ldi_log : ∀ (k : Nat) (n : Int), 0 < n → n < 2 ^ k → (ldi 2 k n).length = Nat.log2 n.toNat + 1
  | 0, n, h0, h1 => by have : (2 : Int) ^ 0 = 1 := rfl; omega
  | k + 1, n, h0, h1 => by
    have a := div_small (b := 2) (by decide) h0 h1
    rw [show ldi 2 (k + 1) n = n.fmod 2 :: ldi 2 k (n / 2) from if_neg (Int.not_le.mpr h0), List.length_cons, Nat.log2_def]
    by_cases h : 0 < n / 2
    · rw [ldi_log k (n / 2) h a.2.2, if_pos (two_n h), half_n h0]
    · rw [ldi_zero 2 (Int.not_lt.mp h), if_neg (one_n h)]
      rfl
theorem lg_laws {n : Int} (h0 : 0 ≤ n) (h1 : n < 2 ^ 60) : lg n = ((dgs n 2).length : Nat) - (if 0 < n then 1 else 2) ∧ lg (n + 1 - 1) + 1 = (if 0 < n then ((dgs n 2).length : Int) else 0) := by
  rw [show n + 1 - 1 = n from by omega]
  unfold lg dgs
  rw [List.length_reverse]
  by_cases h : 0 < n
  · rw [if_pos h, if_pos h, if_neg (by omega), if_neg (by omega), ldi_log 400 n h (Int.lt_trans h1 (by decide))]
    omega
  · rw [if_neg h, if_neg h, if_pos (by omega), if_pos (by omega)]
    decide
theorem tdiv_eq {a b : Int} (hz : b ≠ 0) : a.tdiv b = if 0 < a * b then ((a.natAbs : Int) - (a.natAbs : Int) % (b.natAbs : Int)) / (b.natAbs : Int) else -(((a.natAbs : Int) - (a.natAbs : Int) % (b.natAbs : Int)) / (b.natAbs : Int)) := by
  have hq : ((a.natAbs : Int) - (a.natAbs : Int) % (b.natAbs : Int)) / (b.natAbs : Int) = ((a.tdiv b).natAbs : Int) := by
    rw [Int.natAbs_tdiv, show (a.natAbs : Int) - (a.natAbs : Int) % (b.natAbs : Int) = (b.natAbs : Int) * ((a.natAbs : Int) / (b.natAbs : Int)) from by have := Int.mul_ediv_add_emod (a.natAbs : Int) (b.natAbs : Int); omega, Int.mul_ediv_cancel_left _ (by omega)]
    rfl
  rw [hq]
  have pn : ∀ {x y : Int}, 0 ≤ x → y < 0 → x.tdiv y ≤ 0 := fun {x y} h1 h2 => by
    have := Int.tdiv_nonneg h1 (show 0 ≤ -y by omega)
    rw [Int.tdiv_neg] at this; omega
  rcases Int.lt_or_le a 0 with ha | ha
  · rcases Int.lt_or_lt_of_ne hz with hb | hb
    · rw [if_pos (Int.mul_pos_of_neg_of_neg ha hb)]
      have := Int.tdiv_nonneg (show 0 ≤ -a by omega) (show 0 ≤ -b by omega)
      rw [Int.neg_tdiv_neg] at this; omega
    · rw [if_neg (Int.not_lt.mpr (Int.le_of_lt (Int.mul_neg_of_neg_of_pos ha hb)))]
      have := Int.tdiv_nonneg (show 0 ≤ -a by omega) (Int.le_of_lt hb)
      rw [Int.neg_tdiv] at this; omega
  · rcases Int.lt_or_lt_of_ne hz with hb | hb
    · have := pn ha hb
      rw [if_neg (Int.not_lt.mpr (Int.mul_nonpos_of_nonneg_of_nonpos ha (Int.le_of_lt hb)))]; omega
    · have := Int.tdiv_nonneg ha (Int.le_of_lt hb)
      split <;> rename_i q
      · omega
      · have : a = 0 := by
          rcases Int.lt_or_le 0 a with h | h
          · exact absurd (Int.mul_pos h hb) q
          · omega
        subst this
        rw [Int.zero_tdiv]; rfl
theorem mod_fix {b r1 r2 k : Int} (h : r1 = r2 + b * k) (h0 : 0 ≤ r1) (h1 : r1 < b) (h2 : -b < r2) (h3 : r2 < b) : r1 = if r2 * b < 0 then r2 + b else r2 := by
  have hb : 0 < b := by omega
  have low : ∀ {i j : Int}, b * i < b * j → i < j := fun q => Int.lt_of_mul_lt_mul_left q (Int.le_of_lt hb)
  have e0 : b * 0 = 0 := Int.mul_zero b
  have e1 : b * 2 = b + b := by omega
  have e2 : b * 1 = b := Int.mul_one b
  have e3 : b * (-1) = -b := by omega
  by_cases hr : r2 < 0
  · rw [if_pos (Int.mul_neg_of_neg_of_pos hr hb)]
    have a1 := low (i := 0) (j := k) (by omega)
    have a2 := low (i := k) (j := 2) (by omega)
    have : k = 1 := by omega
    rw [this] at h; omega
  · rw [if_neg (Int.not_lt.mpr (Int.mul_nonneg (Int.not_lt.mp hr) (Int.le_of_lt hb)))]
    have a1 := low (i := -1) (j := k) (by omega)
    have a2 := low (i := k) (j := 1) (by omega)
    have : k = 0 := by omega
    rw [this] at h; omega
theorem ab_lt {r b : Int} (h : r.natAbs < b.natAbs) (hb : 0 < b) : -b < r ∧ r < b := by omega
theorem fmod_eq {a b : Int} (hz : b ≠ 0) : a.fmod b = if a.tmod b * b < 0 then a.tmod b + b else a.tmod b := by
  have e : a.fmod b = a.tmod b + b * (a.tdiv b - a.fdiv b) := by
    have h1 := Int.fmod_add_mul_fdiv a b
    have h2 := Int.mul_tdiv_add_tmod a b
    rw [Int.mul_sub]; omega
  have ht : (a.tmod b).natAbs < b.natAbs := by rw [Int.natAbs_tmod]; exact Nat.mod_lt _ (by omega)
  rcases fmod_rng hz a with h | h
  · have z := ab_lt ht (Int.lt_of_le_of_lt h.1 h.2)
    exact mod_fix e h.1 h.2 z.1 z.2
  · have e' : -(a.fmod b) = -(a.tmod b) + -b * (a.tdiv b - a.fdiv b) := by rw [Int.neg_mul, e, Int.neg_add]
    have z := ab_lt (r := -(a.tmod b)) (b := -b) (by rw [Int.natAbs_neg, Int.natAbs_neg]; exact ht) (Int.neg_pos.mpr (Int.lt_of_lt_of_le h.1 h.2))
    have q := mod_fix e' (Int.neg_nonneg.mpr h.2) (Int.neg_lt_neg h.1) z.1 z.2
    rw [Int.neg_mul_neg] at q
    split at q <;> rename_i z
    · rw [if_pos z]; exact Int.neg_inj.mp (q.trans Int.neg_add.symm)
    · rw [if_neg z]; exact Int.neg_inj.mp q
theorem trv_dn {op : List Int} {a b w : Int} (hw : 1 ≤ w) (hop : op ∈ opsL) (hb : -(2 ^ (w - 1).toNat) ≤ b ∧ b < 2 ^ (w - 1).toNat) : trv op a b w = dn op a b w := by
  have h : op = oAdd ∨ op = oSub ∨ op = oMul ∨ op = oDiv ∨ op = oMod ∨ op = oPow ∨ op = oUnm := by simpa using hop
  rcases h with rfl | rfl | rfl | rfl | rfl | rfl | rfl
  · rfl
  · rfl
  · rfl
  · show (if (oDiv = oDiv ∨ oDiv = oMod) ∧ b = 0 then none else some (wr w (a.tdiv b))) = if b = 0 then none else some (wr w _)
    by_cases hz : b = 0
    · rw [if_pos ⟨.inl rfl, hz⟩, if_pos hz]
    · rw [if_neg (fun q => hz q.2), if_neg hz]
      rw [tdiv_eq hz]
  · show (if (oMod = oDiv ∨ oMod = oMod) ∧ b = 0 then none else some (wr w (a.fmod b))) = if b = 0 then none else some _
    by_cases hz : b = 0
    · rw [if_pos ⟨.inr rfl, hz⟩, if_pos hz]
    · rw [if_neg (fun q => hz q.2), if_neg hz, fmod_small hw hz hb, tmod_eq, fmod_eq hz]
  · show (if oPow = oPow ∧ b < 0 ∧ a = 0 then none else some (pwv a b w)) = if 0 ≤ b then some (wr w (a ^ b.toNat)) else if a = 0 then none else if a = 1 then some 1 else if a = -1 then some (if b.fmod 2 = 0 then 1 else -1) else some 0
    unfold pwv
    by_cases hb0 : 0 ≤ b
    · rw [if_pos hb0, if_neg (fun q => by omega), if_neg (by omega)]
    · rw [if_neg hb0, if_pos (show b < 0 by omega)]
      by_cases ha : a = 0
      · rw [if_pos ha, if_pos ⟨rfl, by omega, ha⟩]
      · rw [if_neg ha, if_neg (fun q => ha q.2.2)]
        split
        · rfl
        · split <;> rfl
  · rfl

noncomputable def sTxt (xs : List V) (r : V) : Prop := ∃ ns a b n w, xs = [.lst ns, .int a, .int b, .int n, .lim w] ∧ r = .bool true ∧ ns.length ≤ 63 ∧ 0 ≤ a ∧ a ≤ 900 ∧ (b = 0 ∨ (2 ≤ b ∧ b ≤ 36)) ∧ (-(2 ^ 60) < n ∧ n < 2 ^ 60) ∧ 1 ≤ w ∧ w ≤ 400
theorem wd_ok {b : Int} (hb : b = 0 ∨ (2 ≤ b ∧ b ≤ 36)) : 2 ≤ wd b ∧ wd b ≤ 36 := by unfold wd; split <;> omega
theorem c_txt {g : Gl} (H : GA g) (hY : GY g) (kc : keepIn g.K (.ref 202) = true) {xs : List V} {r : V} (h : sTxt xs r) : Con g 4 (.ref 287) xs r := by
  obtain ⟨ns, a, b, n, w, rfl, rfl, hns, ha0, ha1, hb, hn, h0, h1⟩ := h
  have H' : FnK g _ 287 _ _ _ := H.f34
  refine con2 H' ["script", "at", "base", "n", "limits"] ["width", "wide", "told", "text"] ⟨[⟨"_law_octets", sOct⟩, ⟨"_law_drawn", sDrawn⟩, ⟨"_law_capitals", sCap⟩, ⟨"abs", sAbs⟩, ⟨"_law_like", sLike⟩, ⟨"text_in_base", sTib⟩, ⟨"_law_read", sLread⟩, ⟨"number_text", sNum⟩, ⟨"_law_cut", sWrap⟩], [], [(eLm2, spLm2)]⟩ 24 (gok_c (f := ⟨"_law_octets", sOct⟩) ⟨by decide +kernel, by decide +kernel, at_fn (show FnK g _ 221 _ _ _ from H.f24) fun xs r h => ((c_oct H h).more (by decide))⟩ (gok_c (f := ⟨"_law_drawn", sDrawn⟩) ⟨by decide +kernel, by decide +kernel, at_fn (show FnK g _ 280 _ _ _ from H.f33) fun xs r h => ((c_drawn H kc h).more (by decide))⟩ (gok_c (f := ⟨"_law_capitals", sCap⟩) ⟨by decide +kernel, by decide +kernel, at_fn (show FnK g _ 226 _ _ _ from H.f25) fun xs r h => ((c_cap H h).more (by decide))⟩ (gok_c (f := ⟨"abs", sAbs⟩) ⟨by decide +kernel, by decide +kernel, .bi "abs" H.nabs (by decide +kernel) (by decide) fun xs r h => b_abs h⟩ (gok_c (f := ⟨"_law_like", sLike⟩) ⟨by decide +kernel, by decide +kernel, at_fn (show FnK g _ 275 _ _ _ from H.f32) fun xs r h => ((c_like H h).more (by decide))⟩ (gok_c (f := ⟨"text_in_base", sTib⟩) ⟨by decide +kernel, by decide +kernel, at_fn (show FnK g _ 153 _ _ _ from H.f13) fun xs r h => (c_tib H h)⟩ (gok_c (f := ⟨"_law_read", sLread⟩) ⟨by decide +kernel, by decide +kernel, at_fn (show FnK g _ 247 _ _ _ from H.f28) fun xs r h => (c_lread H h)⟩ (gok_c (f := ⟨"number_text", sNum⟩) ⟨by decide +kernel, by decide +kernel, at_fn (show FnK g _ 160 _ _ _ from H.f14) fun xs r h => ((c_num H h).more (by decide))⟩ (gok_c (f := ⟨"_law_cut", sWrap⟩) ⟨by decide +kernel, by decide +kernel, at_fn (show FnK g _ 209 _ _ _ from H.f22) fun xs r h => ((c_cut H h).more (by decide))⟩ (gok_o (e := eLm2) (sp := spLm2) (o_more (by decide) (o_lm2 hY (by decide +kernel))) gok0)))))))))) (by decide +kernel) rfl rfl (fun ws fd h e1 e2 e3 => by obtain ⟨a, b, c, d, e, rfl⟩ := l5 h; cases fd; cases e1; cases e2; cases e3; rfl) ?_
  have hw := wd_ok hb
  have hn4 : -(2 ^ 400) < n ∧ n < 2 ^ 400 := ⟨Int.lt_trans (by decide) hn.1, Int.lt_trans hn.2 (by decide)⟩
  have ha4 : -(2 ^ 400) < (n.natAbs : Int) ∧ (n.natAbs : Int) < 2 ^ 400 := ⟨Int.lt_of_lt_of_le (by decide) (Int.natCast_nonneg _), by have := hn4.1; have := hn4.2; omega⟩
  have ol := oct_len hn.1 hn.2 hw.1
  have oa := oct_oct (n := (n.natAbs : Int)) hw.1
  have ol2 : (oct (n.natAbs : Int) (wd b)).length ≤ 61 := oct_len (by omega) (by omega) hw.1
  have hwr : wr 400 n = n := wr_small (by decide) (Int.le_of_lt (Int.lt_trans (by decide) hn.1)) (Int.lt_trans hn.2 (by decide))
  refine Exists.intro [.int w, .int (wd b)] (And.intro (And.intro rfl (And.intro (fun hz => ?_) (fun hz => ?_))) ?_)
  · exact congrArg (fun z => [V.int w, V.int z]) (if_pos hz).symm
  · exact congrArg (fun z => [V.int w, V.int z]) (if_neg hz).symm
  refine Exists.intro _ (And.intro (Exists.intro _ (And.intro ⟨n, wd b, rfl, rfl, hn4.1, hn4.2, hw.1, hw.2⟩ rfl)) ?_)
  refine Exists.intro _ (And.intro ⟨ns, a, b, rfl, rfl, hns, ha0, ha1, by omega, by omega⟩ (And.intro (by show 1 + (oct n (wd b)).length ≤ 1000000; omega) (And.intro (by show ([32] ++ oct n (wd b)).length + 1 ≤ 1000000; rw [List.length_append]; show 1 + (oct n (wd b)).length + 1 ≤ 1000000; omega) ?_)))
  refine Exists.intro _ (And.intro ⟨n, rfl, congrArg V.int (abs_eq n).symm⟩ (Exists.intro _ (And.intro ⟨(n.natAbs : Int), wd b, rfl, rfl, ha4.1, ha4.2, hw.1, hw.2⟩ (Exists.intro _ (And.intro ⟨_, rfl, rfl, by omega, oa⟩ (And.intro (by show 1 + (caps _).length ≤ 1000000; rw [caps_len]; omega) ?_))))))
  refine Exists.intro (fun vs ρ => ∃ (ls : List (List Int)) (tv : Option V), vs = ls.map V.bytes ∧ ρ = ([("script", some (.lst ns)), ("at", some (.int a)), ("base", some (.int b)), ("n", some (.int n)), ("limits", some (.lim w)), ("width", some (.int w)), ("wide", some (.int (wd b))), ("told", some (.bytes (oct n (wd b)))), ("text", tv)] : Rho) ∧ ∀ l ∈ ls, l.length ≤ 100) (And.intro ⟨[drawn ns a b, [32] ++ oct n (wd b) ++ [10], [43] ++ caps (oct (n.natAbs : Int) (wd b))], none, rfl, rfl, fun l hl => ?_⟩ (And.intro (fun u rr ρ' hI => ?_) (fun ρ' hI => ?_)))
  · simp only [List.mem_cons, List.not_mem_nil, or_false] at hl
    rcases hl with rfl | rfl | rfl
    · exact Nat.le_trans (drawn_len ns a b) (by decide)
    · rw [List.length_append, List.length_append]; show 1 + _ + 1 ≤ 100; omega
    · rw [List.length_append, caps_len]; show 1 + _ ≤ 100; omega
  · obtain ⟨ls, tv, hvs, rfl, hls⟩ := hI
    cases ls with
    | nil => cases hvs
    | cons l ls =>
    cases hvs
    obtain ⟨p, hp1, hp2⟩ := tib_lrd (l := l) hb w
    exact Exists.intro _ (And.intro ⟨l, b, w, rfl, hp1.symm, hls l (.head _), hb, h0, h1⟩ (Exists.intro _ (And.intro ⟨l, b, w, rfl, hp2.symm, hls l (.head _), hb, h0, h1⟩ (Exists.intro (.bool true) (And.intro ⟨p, p, rfl, (congrArg V.bool (decide_eq_true rfl)).symm⟩ ⟨ls, _, rfl, rfl, fun l hl => hls l (.tail _ hl)⟩)))))
  · obtain ⟨ls, tv, hvs, rfl, -⟩ := hI
    have hto := tib_oct hn4.1 hn4.2 (.inl rfl) w
    have sn : sNum [.int n] (.bytes (ntx n)) := ⟨n, rfl, rfl, hn4.1, hn4.2⟩
    have hnt : ntx n = oct n 10 := ntx_oct hn4.1 hn4.2
    refine Exists.intro _ (And.intro sn (Exists.intro _ (And.intro ⟨n, 10, rfl, rfl, hn4.1, hn4.2, by decide, by decide⟩ (And.intro (fun h => absurd hnt h) (fun _ => ?_)))))
    refine Exists.intro _ (And.intro sn (Exists.intro (.int (wr w n)) (And.intro ⟨ntx n, 0, w, rfl, by rw [hnt]; exact hto.symm, by rw [hnt]; have := oct_len (b := 10) hn.1 hn.2 (by decide); omega, .inl rfl, h0, h1⟩ (Exists.intro _ (And.intro ⟨n, w, rfl, rfl, h0, h1⟩ (And.intro (fun h => absurd rfl h) (fun _ => ?_)))))))
    exact ⟨_, .head _, rfl, .lim 400, rfl, Exists.intro (.int n) (And.intro ⟨oct n (wd b), b, 400, rfl, by rw [tib_oct hn4.1 hn4.2 hb, hwr], by omega, hb, by decide, by decide⟩ (And.intro (fun _ => rfl) (fun h => absurd rfl h)))⟩

noncomputable def sRing (xs : List V) (r : V) : Prop := ∃ a b c w, xs = [.int a, .int b, .int c, .int w, .lim w] ∧ r = .bool true ∧ (-(2 ^ 60) < a ∧ a < 2 ^ 60) ∧ (-(2 ^ 60) < b ∧ b < 2 ^ 60) ∧ 0 ≤ c ∧ c ≤ 100 ∧ 1 ≤ w ∧ w ≤ 400
theorem c_ring {g : Gl} (H : GA g) {xs : List V} {r : V} (h : sRing xs r) : Con g 4 (.ref 294) xs r := by
  obtain ⟨a, b, c, w, rfl, rfl, ha, hb, hc0, hc1, h0, h1⟩ := h
  have H' : FnK g _ 294 _ _ _ := H.f35
  refine con2 H' ["a", "b", "c", "width", "limits"] ["x", "y", "rest", "many"] ⟨[⟨"wrap", sWrap⟩, ⟨"power", sPow⟩, ⟨"arith", sArith⟩, ⟨"abs", sAbs⟩], [], []⟩ 24 (gok_c (f := ⟨"wrap", sWrap⟩) ⟨by decide +kernel, by decide +kernel, at_fn (show FnK g _ 97 _ _ _ from H.f5) fun xs r h => ((c_wrap H h).more (by decide))⟩ (gok_c (f := ⟨"power", sPow⟩) ⟨by decide +kernel, by decide +kernel, at_fn (show FnK g _ 111 _ _ _ from H.f7) fun xs r h => ((c_power H h).more (by decide))⟩ (gok_c (f := ⟨"arith", sArith⟩) ⟨by decide +kernel, by decide +kernel, at_fn (show FnK g _ 118 _ _ _ from H.f8) fun xs r h => (c_arith H h)⟩ (gok_c (f := ⟨"abs", sAbs⟩) ⟨by decide +kernel, by decide +kernel, .bi "abs" H.nabs (by decide +kernel) (by decide) fun xs r h => b_abs h⟩ gok0)))) (by decide +kernel) rfl rfl (fun ws fd h e1 e2 e3 => by obtain ⟨a, b, c, d, e, rfl⟩ := l5 h; cases fd; cases e1; cases e2; cases e3; rfl) ?_
  have wp4 : ∀ n : Int, sWrap [.int n, .int w] (.int (wr w n)) := fun n => ⟨n, w, rfl, rfl, h0, h1⟩
  have hx := wr_bd4 h0 h1 a
  have hy := wr_bd4 h0 h1 b
  obtain ⟨r1, r2, r3⟩ := ring_laws a b w
  generalize hX : wr w a = x at *
  generalize hY : wr w b = y at *
  have Bx := big400 hx
  have By := big400 hy
  refine Exists.intro [.int x, .int y] (And.intro (Exists.intro _ (And.intro (wp4 a) (Exists.intro _ (And.intro (wp4 b) (by subst hX hY; rfl))))) ?_)
  refine Exists.intro _ (And.intro (wp4 _) (Exists.intro _ (And.intro (wp4 _) (And.intro (fun h => absurd r1 h) (fun _ => ?_)))))
  refine And.intro ⟨big_i 60 ha.1 ha.2 (by decide), big_i 60 hb.1 hb.2 (by decide)⟩ (Exists.intro _ (And.intro (wp4 _) (And.intro ⟨Bx, By⟩ (Exists.intro _ (And.intro (wp4 _) (And.intro (fun h => absurd r2 h) (fun _ => ?_)))))))
  have sp : ∀ k : Int, 0 ≤ k → sPow [.int x, .int k, .int w] (.int (wr w (x ^ k.toNat))) := fun k hk => ⟨x, k, w, rfl, by unfold pwv; rw [if_neg (by omega)], .inl hk, hx, h0, h1⟩
  have b3 := big_xxx hx (wr_bd4 h0 h1 (x ^ c.toNat))
  refine Exists.intro _ (And.intro (sp (c + 3) (by omega)) (Exists.intro _ (And.intro (sp c hc0) (And.intro ⟨b3.1, Bx⟩ (And.intro ⟨b3.2.1, Bx⟩ (And.intro ⟨b3.2.2, Bx⟩ (Exists.intro _ (And.intro (wp4 _) (And.intro (fun h => absurd (ring_pow x w hc0) h) (fun _ => ?_))))))))))
  refine And.intro (fun _ => rfl) (fun hyz => ?_)
  obtain ⟨m1, m2, m3⟩ := ring_div (w := w) (x := x) (y := y) h0 hyz (by rw [← hY]; exact wr_rng h0 b)
  refine Exists.intro [.int (x.fmod y), .int (wr w (x.tdiv y))] (And.intro (Exists.intro (.int (x.fmod y)) (And.intro ⟨oMod, x, y, w, rfl, congrArg V.int m1.symm, .inr (.inr (.inr (.inr (.inr ⟨.inr rfl, hyz⟩)))), hx, hy, h0, h1⟩ (Exists.intro _ (And.intro ⟨oDiv, x, y, w, rfl, rfl, .inr (.inr (.inr (.inr (.inr ⟨.inl rfl, hyz⟩)))), hx, hy, h0, h1⟩ rfl)))) ?_)
  have hz : (x - x.fmod y).fmod y = 0 := m2
  have hyn : y.natAbs < Big := By
  have BQ : (wr w (x.tdiv y)).natAbs < Big := big400 (wr_bd4 h0 h1 _)
  have ny : (y.natAbs : Int) ≠ 0 := by omega
  have fe : ((x.natAbs : Int)).fmod (y.natAbs : Int) = (x.natAbs : Int) % (y.natAbs : Int) := Int.fmod_eq_emod_of_nonneg _ (by omega)
  have sx : sAbs [.int x] (.int (x.natAbs : Int)) := ⟨x, rfl, congrArg V.int (abs_eq x).symm⟩
  have sy : sAbs [.int y] (.int (y.natAbs : Int)) := ⟨y, rfl, congrArg V.int (abs_eq y).symm⟩
  have fm := fmod_rng hyz x
  clear m1 m2 r1 r2 r3
  generalize x.fmod y = rest at *
  rcases fm with fm | fm
  · refine And.intro (fun _ => And.intro (fun _ => And.intro hyz (And.intro (fun h => absurd hz h) (fun _ => ?_))) (fun h => absurd fm.2 h)) (fun h => absurd fm.1 h)
    refine And.intro ⟨BQ, hyn⟩ (Exists.intro _ (And.intro (wp4 _) (And.intro (fun hx0 => ?_) (fun hx0 => ?_))))
    · exact Exists.intro _ (And.intro sx (Exists.intro _ (And.intro sy (And.intro ny (Exists.intro _ (And.intro (wp4 _) (And.intro (fun _ => rfl) (fun h => absurd (by rw [fe, m3, if_pos hx0]) h))))))))
    · exact Exists.intro _ (And.intro sx (Exists.intro _ (And.intro sy (And.intro ny (Exists.intro _ (And.intro (wp4 _) (And.intro (fun _ => rfl) (fun h => absurd (by rw [fe, m3, if_neg hx0]) h))))))))
  · refine And.intro (fun (h1 : 0 ≤ rest) => And.intro (fun (h2 : rest < y) => And.intro hyz (And.intro (fun h => absurd hz h) (fun _ => ?_))) (fun h2 => And.intro (fun _ => And.intro (fun _ => And.intro hyz (And.intro (fun h => absurd hz h) (fun _ => ?_))) (fun h => absurd fm.2 h)) (fun h => absurd fm.1 h))) (fun h1 => And.intro (fun _ => And.intro (fun _ => And.intro hyz (And.intro (fun h => absurd hz h) (fun _ => ?_))) (fun h => absurd fm.2 h)) (fun h => absurd fm.1 h))
    all_goals
      refine And.intro ⟨BQ, hyn⟩ (Exists.intro _ (And.intro (wp4 _) (And.intro (fun hx0 => ?_) (fun hx0 => ?_))))
      · exact Exists.intro _ (And.intro sx (Exists.intro _ (And.intro sy (And.intro ny (Exists.intro _ (And.intro (wp4 _) (And.intro (fun _ => rfl) (fun h => absurd (by rw [fe, m3, if_pos hx0]) h))))))))
      · exact Exists.intro _ (And.intro sx (Exists.intro _ (And.intro sy (And.intro ny (Exists.intro _ (And.intro (wp4 _) (And.intro (fun _ => rfl) (fun h => absurd (by rw [fe, m3, if_neg hx0]) h))))))))
noncomputable def sSize (xs : List V) (r : V) : Prop := ∃ n, xs = [.int n] ∧ r = .bool true ∧ 0 ≤ n ∧ n < 1000000
theorem c_size {g : Gl} (H : GA g) {xs : List V} {r : V} (h : sSize xs r) : Con g 3 (.ref 301) xs r := by
  obtain ⟨n, rfl, rfl, h0, h1⟩ := h
  have H' : FnK g _ 301 _ _ _ := H.f36
  refine con2 H' ["n"] ["told", "bits"] ⟨[⟨"float_byte", sFb⟩, ⟨"byte_float", sBf⟩, ⟨"len", sLen⟩, ⟨"_law_digits", sDigits⟩, ⟨"log2", sLog⟩, ⟨"ceil_log2", sCeil⟩], [], []⟩ 24 (gok_c (f := ⟨"float_byte", sFb⟩) ⟨by decide +kernel, by decide +kernel, at_fn (show FnK g _ 167 _ _ _ from H.f15) fun xs r h => ((c_fb H h).more (by decide))⟩ (gok_c (f := ⟨"byte_float", sBf⟩) ⟨by decide +kernel, by decide +kernel, at_fn (show FnK g _ 174 _ _ _ from H.f16) fun xs r h => ((c_bf H h).more (by decide))⟩ (gok_c (f := ⟨"len", sLen⟩) ⟨by decide +kernel, by decide +kernel, .bi "len" H.nlen (by decide +kernel) (by decide) fun xs r h => b_len h⟩ (gok_c (f := ⟨"_law_digits", sDigits⟩) ⟨by decide +kernel, by decide +kernel, at_fn (show FnK g _ 216 _ _ _ from H.f23) fun xs r h => ((c_digits H h).more (by decide))⟩ (gok_c (f := ⟨"log2", sLog⟩) ⟨by decide +kernel, by decide +kernel, at_fn (show FnK g _ 181 _ _ _ from H.f17) fun xs r h => ((c_log2 H h).more (by decide))⟩ (gok_c (f := ⟨"ceil_log2", sCeil⟩) ⟨by decide +kernel, by decide +kernel, at_fn (show FnK g _ 188 _ _ _ from H.f18) fun xs r h => (c_ceil H h)⟩ gok0)))))) (by decide +kernel) rfl rfl (fun ws fd h e1 e2 e3 => by obtain ⟨a, rfl⟩ := l1 h; cases fd; cases e1; cases e2; cases e3; rfl) ?_
  obtain ⟨f0, f1, f2, f3⟩ := fb_laws h0 h1
  obtain ⟨g1, g2⟩ := lg_laws h0 (Int.lt_trans h1 (by decide))
  have n4 : n < 2 ^ 400 := Int.lt_trans h1 (by decide)
  refine Exists.intro _ (And.intro (Exists.intro _ (And.intro ⟨n, rfl, rfl, h0, h1⟩ rfl)) ?_)
  refine And.intro (fun _ => And.intro (fun _ => Exists.intro _ (And.intro ⟨_, rfl, rfl⟩ (And.intro (fun h => absurd h (Int.not_lt.mpr f2)) (fun _ => ?_)))) (fun h => absurd f1 h)) (fun h => absurd f0 h)
  have tail : ∀ P : Prop, P → P := fun _ h => h
  refine And.intro (fun hn => Exists.intro _ (And.intro ⟨_, rfl, rfl⟩ (And.intro (fun h => absurd h (Int.not_le.mpr (f3 hn))) (fun _ => ?_)))) (fun hn => ?_)
  all_goals
    refine Exists.intro _ (And.intro (Exists.intro _ (And.intro ⟨n, 2, rfl, rfl, h0, n4, by decide, by decide⟩ (Exists.intro _ (And.intro ⟨_, (dgs n 2).length, rfl, .inr (.inr ⟨_, rfl, rfl⟩), rfl, by have := dgs_le n 2; omega⟩ rfl)))) ?_)
  · rw [if_pos hn] at g1 g2
    refine Exists.intro _ (And.intro ⟨n, rfl, rfl⟩ (And.intro (fun _ => And.intro (fun _ => Exists.intro _ (And.intro ⟨_, rfl, rfl⟩ (And.intro (fun _ => And.intro (fun _ => rfl) (fun h => absurd (g2 ▸ rfl) h)) (fun h => absurd hn h)))) (fun h => absurd g1 h)) (fun h => absurd hn h)))
  · rw [if_neg hn] at g1 g2
    refine Exists.intro _ (And.intro ⟨n, rfl, rfl⟩ (And.intro (fun h => absurd h hn) (fun _ => And.intro (fun _ => Exists.intro _ (And.intro ⟨_, rfl, rfl⟩ (And.intro (fun h => absurd h hn) (fun _ => And.intro (fun _ => rfl) (fun h => absurd (g2 ▸ rfl) h))))) (fun h => absurd g1 h))))

noncomputable def Gd (a b : Int) : Prop := (-(2 ^ 60) < a ∧ a < 2 ^ 60) ∧ (-(2 ^ 60) < b ∧ b < 2 ^ 60)
noncomputable abbrev tLaw : Tb := ⟨[⟨"_law_cell", sCell⟩, ⟨"range", sRange⟩, ⟨"_law_texts_right", sTxt⟩, ⟨"wrap", sWrap⟩, ⟨"_law_cut", sWrap⟩, ⟨"_law_ops", sOps⟩, ⟨"_law_like", sLike⟩, ⟨"_law_done", sDone⟩, ⟨"abs", sAbs⟩, ⟨"_law_rings_right", sRing⟩, ⟨"_law_sizes_right", sSize⟩], [], [(eLm1, spLm1), (eTri, spTri)]⟩
noncomputable def lawI (ns : List Int) (W : Int) (vs : List V) (ρ : Rho) : Prop := ∃ (ts : List Nat) (d1 d2 d3 d4 d5 d6 d7 d8 : Option V), vs = ts.map (fun (i : Nat) => V.int (i : Int)) ∧ (∀ t ∈ ts, t ≤ 1) ∧ ρ = ([("script", some (.lst ns)), ("width", some (.int W)), ("limits", some (.lim W)), ("turn", d1), ("told", d2), ("base", d3), ("a", d4), ("b", d5), ("here", d6), ("there", d7), ("op", d8)] : Rho)
theorem law_tail {ns : List Int} (hns : ns.length ≤ 63) {W B a b : Int} {t : Nat} {ts : List Nat} {tv h1 h2 h3 : Option V} (ht : t ≤ 1) (hts : ∀ t ∈ ts, t ≤ 1) (hW : 1 ≤ W ∧ W ≤ 90) (hB : B = 0 ∨ (2 ≤ B ∧ B ≤ 36)) (hab : Gd a b) :
    wpx tLaw 17 ((forB ((fbd 37)[2]?)).drop 4) ([("script", some (.lst ns)), ("width", some (.int W)), ("limits", some (.lim W)), ("turn", some (.int (t : Int))), ("told", tv), ("base", some (.int B)), ("a", some (.int a)), ("b", some (.int b)), ("here", h1), ("there", h2), ("op", h3)] : Rho)
      (fun fl ρ'' => flW (lawI ns W (ts.map fun (i : Nat) => V.int (i : Int)) ρ'') (wpx tLaw 21 ((fbd 37).drop 3) ρ'' (fun fl _ => fl = .ret (.bool true))) (fun fl => fl = .ret (.bool true)) fl) := by
  have W4 : W ≤ 400 := by omega
  have hx := wr_bd4 hW.1 W4 a
  have hy := wr_bd4 hW.1 W4 b
  have rx := wr_rng hW.1 a
  have ry := wr_rng hW.1 b
  obtain ⟨ha, hb⟩ := hab
  have Bt : ((t : Nat) : Int).natAbs < Big := big_i 10 (by omega) (by omega) (by decide)
  have Bs : ∀ k : Int, 0 ≤ k → k ≤ 10 → k.natAbs < Big := fun k h0 h1 => big_i 10 (by omega) (by omega) (by decide)
  have sw : ∀ n : Int, sWrap [.int n, .int W] (.int (wr W n)) := fun n => ⟨n, W, rfl, rfl, hW.1, W4⟩
  refine And.intro ⟨Bs 5 (by decide) (by decide), Bt⟩ (Exists.intro (.bool true) (And.intro ⟨ns, 5 * (t : Int) + 2, B, a, W, rfl, rfl, hns, by omega, by omega, hB, ha, hW.1, W4⟩ ?_))
  refine Exists.intro [.int (wr W a), .int (wr W b)] (And.intro (Exists.intro _ (And.intro (sw a) (Exists.intro _ (And.intro (sw b) rfl)))) ?_)
  refine Exists.intro _ (And.intro (sw a) (And.intro (fun h => absurd rfl h) (fun _ => ?_)))
  have sh : (1 : Int).natAbs < Big ∧ 0 ≤ W - 1 ∧ W - 1 ≤ 1000 := ⟨Bs 1 (by decide) (by decide), by omega, by omega⟩
  refine And.intro sh (And.intro (fun _ => And.intro sh (And.intro (fun _ => ?_) (fun h => absurd (by rw [Int.one_mul]; exact rx.2) h))) (fun h => absurd (by rw [Int.one_mul]; exact rx.1) h))
  generalize wr W a = x at *
  generalize wr W b = y at *
  refine Exists.intro _ (And.intro ⟨rfl, rfl⟩ (Exists.intro (fun vs ρ => ∃ (ls : List (List Int)) (ov : Option V), vs = ls.map V.bytes ∧ (∀ o ∈ ls, o ∈ opsL) ∧ ρ = ([("script", some (.lst ns)), ("width", some (.int W)), ("limits", some (.lim W)), ("turn", some (.int (t : Int))), ("told", tv), ("base", some (.int B)), ("a", some (.int a)), ("b", some (.int b)), ("here", some (.int x)), ("there", some (.int y)), ("op", ov)] : Rho)) (And.intro ⟨opsL, h3, rfl, fun _ h => h, rfl⟩ (And.intro (fun u rr ρ' hI => ?_) (fun ρ' hI => ?_)))))
  · obtain ⟨ls, ov, hvs, hls, rfl⟩ := hI
    cases ls with
    | nil => cases hvs
    | cons op ls =>
    cases hvs
    have hop := hls op (.head _)
    have htd := trv_dn (a := x) hW.1 hop ry
    exact ⟨_, .tail _ (.head _), rfl, _, ⟨op, x, y, W, rfl, rfl, rfl, rfl, hop, hx, hy, hW.1, W4, rfl⟩, Exists.intro _ (And.intro ⟨op, x, y, W, rfl, rfl, hop, hx, hy, hW.1, W4⟩ (Exists.intro (.bool true) (And.intro ⟨trv op x y W, dn op x y W, rfl, by rw [htd, decide_eq_true rfl]⟩ ⟨ls, _, rfl, fun o ho => hls o (.tail _ ho), rfl⟩)))⟩
  · obtain ⟨ls, ov, hvs, hls, rfl⟩ := hI
    refine Exists.intro (.int (b.natAbs : Int)) (And.intro ⟨b, rfl, congrArg V.int (abs_eq b).symm⟩ (And.intro (by decide) ?_))
    have f0 := Int.fmod_nonneg_of_pos (b.natAbs : Int) (show (0 : Int) < 50 by decide)
    have f1 := Int.fmod_lt_of_pos (b.natAbs : Int) (show (0 : Int) < 50 by decide)
    refine Exists.intro (.bool true) (And.intro ⟨a, b, (b.natAbs : Int).fmod 50, W, rfl, rfl, ha, hb, f0, by omega, hW.1, W4⟩ ?_)
    have e6 : (10 : Int) ^ (6 : Int).toNat = 1000000 := rfl
    have g0 := Int.fmod_nonneg_of_pos (a.natAbs : Int) (show (0 : Int) < 1000000 by decide)
    have g1 := Int.fmod_lt_of_pos (a.natAbs : Int) (show (0 : Int) < 1000000 by decide)
    refine Exists.intro (.int (a.natAbs : Int)) (And.intro ⟨a, rfl, congrArg V.int (abs_eq a).symm⟩ (And.intro ⟨Bs 10 (by decide) (by decide), by decide, by decide⟩ (And.intro (by decide) ?_)))
    refine Exists.intro (.bool true) (And.intro ⟨(a.natAbs : Int).fmod 1000000, rfl, rfl, g0, g1⟩ ?_)
    exact ⟨ts, _, _, _, _, _, _, _, _, rfl, hts, rfl⟩
theorem law_ok {g : Gl} (H : GA g) (hX : GX g) (hY : GY g) (kp : keepIn g.K (.ref 111) = true) (ka : keepIn g.K (.ref 118) = true) (kt : keepIn g.K (.ref 268) = true) (kc : keepIn g.K (.ref 202) = true) {ns : List Int} (hns : ns.length ≤ 63) :
    BodyOk g 4 (fsc 37) (fbd 37) (mkRho ["script"] [.lst ns] ["width", "limits", "turn", "told", "base", "a", "b", "here", "there", "op"]) (.bool true) := by
  refine body_of (G := tLaw) (n := 24) (gok_c (f := ⟨"_law_cell", sCell⟩) ⟨by decide +kernel, by decide +kernel, at_fn (show FnK g _ 202 _ _ _ from H.f21) fun xs r h => ((c_cell H h).more (by decide))⟩ (gok_c (f := ⟨"range", sRange⟩) ⟨by decide +kernel, by decide +kernel, .ty "range" H.nrange (by decide +kernel) (by decide) fun xs r h => b_range h⟩ (gok_c (f := ⟨"_law_texts_right", sTxt⟩) ⟨by decide +kernel, by decide +kernel, at_fn (show FnK g _ 287 _ _ _ from H.f34) fun xs r h => (c_txt H hY kc h)⟩ (gok_c (f := ⟨"wrap", sWrap⟩) ⟨by decide +kernel, by decide +kernel, at_fn (show FnK g _ 97 _ _ _ from H.f5) fun xs r h => ((c_wrap H h).more (by decide))⟩ (gok_c (f := ⟨"_law_cut", sWrap⟩) ⟨by decide +kernel, by decide +kernel, at_fn (show FnK g _ 209 _ _ _ from H.f22) fun xs r h => ((c_cut H h).more (by decide))⟩ (gok_c (f := ⟨"_law_ops", sOps⟩) ⟨by decide +kernel, by decide +kernel, at_fn (show FnK g _ 195 _ _ _ from H.f20) fun xs r h => ((c_ops H h).more (by decide))⟩ (gok_c (f := ⟨"_law_like", sLike⟩) ⟨by decide +kernel, by decide +kernel, at_fn (show FnK g _ 275 _ _ _ from H.f32) fun xs r h => ((c_like H h).more (by decide))⟩ (gok_c (f := ⟨"_law_done", sDone⟩) ⟨by decide +kernel, by decide +kernel, at_fn (show FnK g _ 261 _ _ _ from H.f30) fun xs r h => ((c_done H h).more (by decide))⟩ (gok_c (f := ⟨"abs", sAbs⟩) ⟨by decide +kernel, by decide +kernel, .bi "abs" H.nabs (by decide +kernel) (by decide) fun xs r h => b_abs h⟩ (gok_c (f := ⟨"_law_rings_right", sRing⟩) ⟨by decide +kernel, by decide +kernel, at_fn (show FnK g _ 294 _ _ _ from H.f35) fun xs r h => (c_ring H h)⟩ (gok_c (f := ⟨"_law_sizes_right", sSize⟩) ⟨by decide +kernel, by decide +kernel, at_fn (show FnK g _ 301 _ _ _ from H.f36) fun xs r h => ((c_size H h).more (by decide))⟩ (gok_o (e := eLm1) (sp := spLm1) (o_more (by decide) (o_lm1 hY (by decide +kernel))) (gok_o (e := eTri) (sp := spTri) (o_tri H hX kp ka kt (by decide +kernel) (by decide +kernel)) gok0))))))))))))) ?_
  have p2 : ∀ k : Int, 0 ≤ k ∧ k ≤ 1000 → (((2 : Int).natAbs < Big ∧ 0 ≤ k ∧ k ≤ 1000)) := fun k hk => ⟨big_of 2 (by decide) (by decide), hk⟩
  have sc : ∀ k : Int, 0 ≤ k → k ≤ 1000 → sCell [.lst ns, .int k] (.int (cell ns k)) := fun k h0 h1 => ⟨ns, k, rfl, rfl, hns, h0, h1⟩
  refine Exists.intro (.int (1 + (cell ns 0).fmod 90)) (And.intro (Exists.intro _ (And.intro (sc 0 (by decide) (by decide)) (And.intro (by decide) rfl))) ?_)
  have hW : 1 ≤ 1 + (cell ns 0).fmod 90 ∧ 1 + (cell ns 0).fmod 90 ≤ 90 := by
    have := Int.fmod_nonneg_of_pos (cell ns 0) (show (0 : Int) < 90 by decide)
    have := Int.fmod_lt_of_pos (cell ns 0) (show (0 : Int) < 90 by decide)
    omega
  generalize 1 + (cell ns 0).fmod 90 = W at *
  have W4 : W ≤ 400 := by omega
  refine Exists.intro (.lim W) (And.intro ⟨_, .head _, rfl, .lim W, ⟨W, rfl, rfl⟩, rfl⟩ ?_)
  refine Exists.intro _ (And.intro ⟨2, rfl, rfl, by decide, by decide⟩ ?_)
  refine Exists.intro (lawI ns W) (And.intro ⟨[0, 1], none, none, none, none, none, none, none, none, rfl, fun t ht => ?_, rfl⟩ (And.intro (fun u rr ρ' hI => ?_) (fun ρ' hI => ?_)))
  · simp only [List.mem_cons, List.not_mem_nil, or_false] at ht; omega
  · obtain ⟨ts, d1, d2, d3, d4, d5, d6, d7, d8, hvs, hts, rfl⟩ := hI
    cases ts with
    | nil => cases hvs
    | cons t ts =>
    cases hvs
    have ht1 := hts t (.head _)
    have Bt : ((t : Nat) : Int).natAbs < Big := big_i 10 (by omega) (by omega) (by decide)
    have Bs : ∀ k : Int, 0 ≤ k → k ≤ 10 → k.natAbs < Big := fun k h0 h1 => big_i 10 (by omega) (by omega) (by decide)
    refine Exists.intro _ (And.intro (Exists.intro _ (And.intro (sc ((t : Int) + 1) (by omega) (by omega)) rfl)) ?_)
    generalize cell ns ((t : Int) + 1) = T
    refine Exists.intro (.int (if T.fmod 5 = 0 then 0 else 2 + (T / 5).fmod 35)) (And.intro (And.intro (by decide) (And.intro (fun hz => congrArg V.int (if_pos hz).symm) (fun hz => And.intro ⟨by decide, Bs 5 (by decide) (by decide)⟩ (And.intro (by decide) (congrArg V.int (if_neg hz).symm))))) ?_)
    have hB : (if T.fmod 5 = 0 then 0 else 2 + (T / 5).fmod 35) = 0 ∨ (2 ≤ (if T.fmod 5 = 0 then 0 else 2 + (T / 5).fmod 35) ∧ (if T.fmod 5 = 0 then 0 else 2 + (T / 5).fmod 35) ≤ 36) := by
      have := Int.fmod_nonneg_of_pos (T / 5) (show (0 : Int) < 35 by decide)
      have := Int.fmod_lt_of_pos (T / 5) (show (0 : Int) < 35 by decide)
      split
      · exact .inl rfl
      · exact .inr (by omega)
    generalize (if T.fmod 5 = 0 then 0 else 2 + (T / 5).fmod 35) = B at *
    have e50 : (2 : Int) ^ (50 : Int).toNat = 2 ^ 50 := rfl
    have e40 : (2 : Int) ^ (40 : Int).toNat = 2 ^ 40 := rfl
    have e60 : (2 : Int) ^ (60 : Int).toNat = 2 ^ 60 := rfl
    refine Exists.intro [.int ((cell ns (2 * (t : Int) + 2)).fmod (2 ^ (50 : Int).toNat) - 2 ^ (40 : Int).toNat), .int ((cell ns (2 * (t : Int) + 3)).fmod (2 ^ (60 : Int).toNat))] (And.intro ?_ ?_)
    · refine And.intro ⟨Bs 2 (by decide) (by decide), Bt⟩ (Exists.intro _ (And.intro (sc (2 * (t : Int) + 2) (by omega) (by omega)) (And.intro (p2 50 (by decide)) (And.intro (by decide) (And.intro (p2 40 (by decide)) ?_)))))
      exact And.intro ⟨Bs 2 (by decide) (by decide), Bt⟩ (Exists.intro _ (And.intro (sc (2 * (t : Int) + 3) (by omega) (by omega)) (And.intro (p2 60 (by decide)) (And.intro (by decide) rfl))))
    have hg : Gd ((cell ns (2 * (t : Int) + 2)).fmod (2 ^ (50 : Int).toNat) - 2 ^ (40 : Int).toNat) ((cell ns (2 * (t : Int) + 3)).fmod (2 ^ (60 : Int).toNat)) := by
      rw [e50, e40, e60]
      have a1 := Int.fmod_nonneg_of_pos (cell ns (2 * (t : Int) + 2)) (show (0 : Int) < 2 ^ 50 by decide)
      have a2 := Int.fmod_lt_of_pos (cell ns (2 * (t : Int) + 2)) (show (0 : Int) < 2 ^ 50 by decide)
      have a3 := Int.fmod_nonneg_of_pos (cell ns (2 * (t : Int) + 3)) (show (0 : Int) < 2 ^ 60 by decide)
      have a4 := Int.fmod_lt_of_pos (cell ns (2 * (t : Int) + 3)) (show (0 : Int) < 2 ^ 60 by decide)
      unfold Gd
      omega
    generalize (cell ns (2 * (t : Int) + 2)).fmod (2 ^ (50 : Int).toNat) - 2 ^ (40 : Int).toNat = a0 at *
    generalize (cell ns (2 * (t : Int) + 3)).fmod (2 ^ (60 : Int).toNat) = b0 at *
    refine Exists.intro _ (And.intro (sc ((t : Int) + 4) (by omega) (by omega)) (And.intro (by decide) (And.intro (fun hq => ?_) (fun hq => ?_))))
    · refine Exists.intro [.int (a0.fmod 600 - 300), .int (b0.fmod 40 - 20)] (And.intro (And.intro (by decide) (And.intro (by decide) rfl)) (law_tail hns ht1 (fun t ht => hts t (.tail _ ht)) hW hB ?_))
      have a1 := Int.fmod_nonneg_of_pos a0 (show (0 : Int) < 600 by decide)
      have a2 := Int.fmod_lt_of_pos a0 (show (0 : Int) < 600 by decide)
      have a3 := Int.fmod_nonneg_of_pos b0 (show (0 : Int) < 40 by decide)
      have a4 := Int.fmod_lt_of_pos b0 (show (0 : Int) < 40 by decide)
      unfold Gd
      omega
    · exact law_tail hns ht1 (fun t ht => hts t (.tail _ ht)) hW hB hg
  · obtain ⟨ts, d1, d2, d3, d4, d5, d6, d7, d8, hvs, hts, rfl⟩ := hI
    exact rfl

noncomputable section
noncomputable def x11 (P : Params) : Obj := { cls := Value.type "tuple", data := Data.seq #[] }
noncomputable def y44 (P : Params) : Obj := { cls := Value.none, data := Data.fields #[] }
noncomputable def x13 (P : Params) : Obj := { cls := Value.type "code", data := Data.fields #[Value.str "<module>" 182, Value.str "<module>" 183, Value.str "/claim/cut.py" 184, Value.int 1 0, Value.int 0 0, Value.int 0 0, Value.int 0 0, Value.int 0 0, Value.ref 11, Value.bool false, Value.int 181 0, Value.ref 12, Value.none, Value.none, Value.none, Value.none, Value.int 185 0, Value.int 1 0, Value.str "/claim/cut.py" 186] }
noncomputable def x14 (P : Params) : Obj := { cls := Value.type "frame", slots := #[some (Value.ref 13), some (Value.ref 3), some (Value.ref 3), none, some (Value.str "__main__" 164), none, some (Value.ref 0)] }
noncomputable def y49 (P : Params) : Obj := { cls := Value.type "dict", data := Data.dict #[{ hash := PyData.keyHash P "__name__", key := Value.str "__name__" 165, val := Value.str "lua.values" 187 }, { hash := PyData.keyHash P "__doc__", key := Value.str "__doc__" 166, val := Value.none }, { hash := PyData.keyHash P "__package__", key := Value.str "__package__" 167, val := Value.none }, { hash := PyData.keyHash P "__loader__", key := Value.str "__loader__" 168, val := Value.builtin "__main__.__loader__#opaque" }, { hash := PyData.keyHash P "__spec__", key := Value.str "__spec__" 169, val := Value.none }, { hash := PyData.keyHash P "__annotations__", key := Value.str "__annotations__" 170, val := Value.ref 6 }, { hash := PyData.keyHash P "__builtins__", key := Value.str "__builtins__" 171, val := Value.ref 4 }, { hash := PyData.keyHash P "__file__", key := Value.str "__file__" 173, val := Value.str "/claim/cut.py" 172 }, { hash := PyData.keyHash P "__cached__", key := Value.str "__cached__" 174, val := Value.none }, { hash := PyData.keyHash P "BLANKS", key := Value.str "BLANKS" 190, val := Value.bytes #[32, 9, 10, 11, 12, 13] 189 }, { hash := PyData.keyHash P "Limits", key := Value.str "Limits" 261, val := Value.ref 46 }] 11 }
noncomputable def y50 (P : Params) : Obj := { cls := Value.none, data := Data.fields #[Value.int 3 0, Value.int 0 0, Value.ref 20] }
noncomputable def x15 (P : Params) : Obj := { cls := Value.type "tuple", data := Data.seq #[] }
noncomputable def x16 (P : Params) : Obj := { cls := Value.type "builtin_function_or_method", data := Data.fields #[Value.builtin "type.__prepare__", Value.type "type"] }
noncomputable def x17 (P : Params) : Obj := { cls := Value.type "dict", data := Data.dict #[{ hash := PyData.keyHash P "__module__", key := Value.str "__module__" 198, val := Value.str "lua.values" 187 }, { hash := PyData.keyHash P "__qualname__", key := Value.str "__qualname__" 200, val := Value.str "Limits" 199 }, { hash := PyData.keyHash P "__firstlineno__", key := Value.str "__firstlineno__" 202, val := Value.int 3 201 }, { hash := PyData.keyHash P "__init__", key := Value.str "__init__" 229, val := Value.ref 29 }, { hash := PyData.keyHash P "greatest", key := Value.str "greatest" 236, val := Value.ref 36 }, { hash := PyData.keyHash P "least", key := Value.str "least" 243, val := Value.ref 43 }, { hash := PyData.keyHash P "__static_attributes__", key := Value.str "__static_attributes__" 254, val := Value.ref 44 }] 7 }
noncomputable def x18 (P : Params) : Obj := { cls := Value.type "tuple", data := Data.seq #[] }
noncomputable def x19 (P : Params) : Obj := { cls := Value.none, data := Data.fields #[Value.int 5 0, Value.int 4 0, Value.ref 28, Value.int 17 0, Value.int 4 0, Value.ref 35, Value.int 20 0, Value.int 4 0, Value.ref 42] }
noncomputable def x20 (P : Params) : Obj := { cls := Value.type "code", data := Data.fields #[Value.str "Limits" 193, Value.str "Limits" 194, Value.str "/claim/cut.py" 195, Value.int 3 0, Value.int 0 0, Value.int 0 0, Value.int 0 0, Value.int 0 0, Value.ref 18, Value.bool false, Value.int 181 0, Value.ref 19, Value.none, Value.none, Value.none, Value.none, Value.int 196 0, Value.int 3 0, Value.str "/claim/cut.py" 197] }
noncomputable def x21 (P : Params) : Obj := { cls := Value.type "frame", slots := #[some (Value.ref 20), some (Value.ref 3), some (Value.ref 17), none, some (Value.str "lua.values" 187), none, some (Value.ref 0)] }
noncomputable def x24 (P : Params) : Obj := { cls := Value.none, data := Data.fields #[] }
noncomputable def x27 (P : Params) : Obj := { cls := Value.none, data := Data.func { name := "__init__", qualname := "Limits.__init__", params := mps 2 0, body := FuncBody.stmts (mbd 2 0), scope := msc 2 0, globals := 0, closure := [], defaults := Value.none, kwdefaults := Value.none } }
noncomputable def x31 (P : Params) : Obj := { cls := Value.none, data := Data.fields #[] }
noncomputable def x34 (P : Params) : Obj := { cls := Value.none, data := Data.func { name := "greatest", qualname := "Limits.greatest", params := mps 2 1, body := FuncBody.stmts (mbd 2 1), scope := msc 2 2, globals := 0, closure := [], defaults := Value.none, kwdefaults := Value.none } }
noncomputable def x38 (P : Params) : Obj := { cls := Value.none, data := Data.fields #[] }
noncomputable def x41 (P : Params) : Obj := { cls := Value.none, data := Data.func { name := "least", qualname := "Limits.least", params := mps 2 2, body := FuncBody.stmts (mbd 2 2), scope := msc 2 2, globals := 0, closure := [], defaults := Value.none, kwdefaults := Value.none } }
noncomputable def x49 (P : Params) : Obj := { cls := Value.type "super", data := Data.fields #[Value.ref 46, Value.ref 46, Value.ref 46] }
noncomputable def x50 (P : Params) : Obj := { cls := Value.type "builtin_function_or_method", data := Data.fields #[Value.builtin "object.__init_subclass__", Value.ref 46] }
noncomputable def y87 (P : Params) : Obj := { cls := Value.none, data := Data.dict #[{ hash := PyData.keyHash P "type.__subclasses__.Exception.0", key := Value.str "type.__subclasses__.Exception.0" 288, val := Value.int 67 0 }, { hash := PyData.keyHash P "type.__subclasses__.Exception.n", key := Value.str "type.__subclasses__.Exception.n" 289, val := Value.int 1 0 }] 2 }
noncomputable def y88 (P : Params) : Obj := { cls := Value.type "dict", data := Data.dict #[{ hash := PyData.keyHash P "__name__", key := Value.str "__name__" 165, val := Value.str "lua.values" 187 }, { hash := PyData.keyHash P "__doc__", key := Value.str "__doc__" 166, val := Value.none }, { hash := PyData.keyHash P "__package__", key := Value.str "__package__" 167, val := Value.none }, { hash := PyData.keyHash P "__loader__", key := Value.str "__loader__" 168, val := Value.builtin "__main__.__loader__#opaque" }, { hash := PyData.keyHash P "__spec__", key := Value.str "__spec__" 169, val := Value.none }, { hash := PyData.keyHash P "__annotations__", key := Value.str "__annotations__" 170, val := Value.ref 6 }, { hash := PyData.keyHash P "__builtins__", key := Value.str "__builtins__" 171, val := Value.ref 4 }, { hash := PyData.keyHash P "__file__", key := Value.str "__file__" 173, val := Value.str "/claim/cut.py" 172 }, { hash := PyData.keyHash P "__cached__", key := Value.str "__cached__" 174, val := Value.none }, { hash := PyData.keyHash P "BLANKS", key := Value.str "BLANKS" 190, val := Value.bytes #[32, 9, 10, 11, 12, 13] 189 }, { hash := PyData.keyHash P "Limits", key := Value.str "Limits" 261, val := Value.ref 46 }, { hash := PyData.keyHash P "LuaError", key := Value.str "LuaError" 291, val := Value.ref 67 }] 12 }
noncomputable def y89 (P : Params) : Obj := { cls := Value.none, data := Data.fields #[Value.int 3 0, Value.int 0 0, Value.ref 20, Value.int 22 0, Value.int 0 0, Value.ref 56] }
noncomputable def x52 (P : Params) : Obj := { cls := Value.type "builtin_function_or_method", data := Data.fields #[Value.builtin "type.__prepare__", Value.type "type"] }
noncomputable def x53 (P : Params) : Obj := { cls := Value.type "dict", data := Data.dict #[{ hash := PyData.keyHash P "__module__", key := Value.str "__module__" 269, val := Value.str "lua.values" 187 }, { hash := PyData.keyHash P "__qualname__", key := Value.str "__qualname__" 271, val := Value.str "LuaError" 270 }, { hash := PyData.keyHash P "__firstlineno__", key := Value.str "__firstlineno__" 273, val := Value.int 22 272 }, { hash := PyData.keyHash P "__init__", key := Value.str "__init__" 281, val := Value.ref 64 }, { hash := PyData.keyHash P "__static_attributes__", key := Value.str "__static_attributes__" 284, val := Value.ref 65 }] 5 }
noncomputable def x54 (P : Params) : Obj := { cls := Value.type "tuple", data := Data.seq #[] }
noncomputable def x55 (P : Params) : Obj := { cls := Value.none, data := Data.fields #[Value.int 24 0, Value.int 4 0, Value.ref 63] }
noncomputable def x56 (P : Params) : Obj := { cls := Value.type "code", data := Data.fields #[Value.str "LuaError" 264, Value.str "LuaError" 265, Value.str "/claim/cut.py" 266, Value.int 22 0, Value.int 0 0, Value.int 0 0, Value.int 0 0, Value.int 0 0, Value.ref 54, Value.bool false, Value.int 181 0, Value.ref 55, Value.none, Value.none, Value.none, Value.none, Value.int 267 0, Value.int 22 0, Value.str "/claim/cut.py" 268] }
noncomputable def x57 (P : Params) : Obj := { cls := Value.type "frame", slots := #[some (Value.ref 56), some (Value.ref 3), some (Value.ref 53), none, some (Value.str "lua.values" 187), none, some (Value.ref 0)] }
noncomputable def x59 (P : Params) : Obj := { cls := Value.none, data := Data.fields #[] }
noncomputable def x62 (P : Params) : Obj := { cls := Value.none, data := Data.func { name := "__init__", qualname := "LuaError.__init__", params := mps 3 0, body := FuncBody.stmts (mbd 3 0), scope := msc 3 0, globals := 0, closure := [], defaults := Value.none, kwdefaults := Value.none } }
noncomputable def x69 (P : Params) : Obj := { cls := Value.type "super", data := Data.fields #[Value.ref 67, Value.ref 67, Value.ref 67] }
noncomputable def x70 (P : Params) : Obj := { cls := Value.type "builtin_function_or_method", data := Data.fields #[Value.builtin "object.__init_subclass__", Value.ref 67] }
noncomputable def y111 (P : Params) : Obj := { cls := Value.type "dict", data := Data.dict #[{ hash := PyData.keyHash P "__name__", key := Value.str "__name__" 165, val := Value.str "lua.values" 187 }, { hash := PyData.keyHash P "__doc__", key := Value.str "__doc__" 166, val := Value.none }, { hash := PyData.keyHash P "__package__", key := Value.str "__package__" 167, val := Value.none }, { hash := PyData.keyHash P "__loader__", key := Value.str "__loader__" 168, val := Value.builtin "__main__.__loader__#opaque" }, { hash := PyData.keyHash P "__spec__", key := Value.str "__spec__" 169, val := Value.none }, { hash := PyData.keyHash P "__annotations__", key := Value.str "__annotations__" 170, val := Value.ref 6 }, { hash := PyData.keyHash P "__builtins__", key := Value.str "__builtins__" 171, val := Value.ref 4 }, { hash := PyData.keyHash P "__file__", key := Value.str "__file__" 173, val := Value.str "/claim/cut.py" 172 }, { hash := PyData.keyHash P "__cached__", key := Value.str "__cached__" 174, val := Value.none }, { hash := PyData.keyHash P "BLANKS", key := Value.str "BLANKS" 190, val := Value.bytes #[32, 9, 10, 11, 12, 13] 189 }, { hash := PyData.keyHash P "Limits", key := Value.str "Limits" 261, val := Value.ref 46 }, { hash := PyData.keyHash P "LuaError", key := Value.str "LuaError" 291, val := Value.ref 67 }, { hash := PyData.keyHash P "ApiError", key := Value.str "ApiError" 320, val := Value.ref 87 }, { hash := PyData.keyHash P "wrap", key := Value.str "wrap" 329, val := Value.ref 97 }, { hash := PyData.keyHash P "divide", key := Value.str "divide" 338, val := Value.ref 104 }, { hash := PyData.keyHash P "power", key := Value.str "power" 349, val := Value.ref 111 }, { hash := PyData.keyHash P "arith", key := Value.str "arith" 360, val := Value.ref 118 }, { hash := PyData.keyHash P "is_blank", key := Value.str "is_blank" 367, val := Value.ref 125 }] 18 }
noncomputable def y112 (P : Params) : Obj := { cls := Value.none, data := Data.fields #[Value.int 3 0, Value.int 0 0, Value.ref 20, Value.int 22 0, Value.int 0 0, Value.ref 56, Value.int 27 0, Value.int 0 0, Value.ref 76, Value.int 31 0, Value.int 0 0, Value.ref 96, Value.int 36 0, Value.int 0 0, Value.ref 103, Value.int 39 0, Value.int 0 0, Value.ref 110, Value.int 53 0, Value.int 0 0, Value.ref 117, Value.int 72 0, Value.int 0 0, Value.ref 124] }
noncomputable def x72 (P : Params) : Obj := { cls := Value.type "builtin_function_or_method", data := Data.fields #[Value.builtin "type.__prepare__", Value.type "type"] }
noncomputable def x73 (P : Params) : Obj := { cls := Value.type "dict", data := Data.dict #[{ hash := PyData.keyHash P "__module__", key := Value.str "__module__" 299, val := Value.str "lua.values" 187 }, { hash := PyData.keyHash P "__qualname__", key := Value.str "__qualname__" 301, val := Value.str "ApiError" 300 }, { hash := PyData.keyHash P "__firstlineno__", key := Value.str "__firstlineno__" 303, val := Value.int 27 302 }, { hash := PyData.keyHash P "__init__", key := Value.str "__init__" 311, val := Value.ref 84 }, { hash := PyData.keyHash P "__static_attributes__", key := Value.str "__static_attributes__" 313, val := Value.ref 85 }] 5 }
noncomputable def x74 (P : Params) : Obj := { cls := Value.type "tuple", data := Data.seq #[] }
noncomputable def x75 (P : Params) : Obj := { cls := Value.none, data := Data.fields #[Value.int 29 0, Value.int 4 0, Value.ref 83] }
noncomputable def x76 (P : Params) : Obj := { cls := Value.type "code", data := Data.fields #[Value.str "ApiError" 294, Value.str "ApiError" 295, Value.str "/claim/cut.py" 296, Value.int 27 0, Value.int 0 0, Value.int 0 0, Value.int 0 0, Value.int 0 0, Value.ref 74, Value.bool false, Value.int 181 0, Value.ref 75, Value.none, Value.none, Value.none, Value.none, Value.int 297 0, Value.int 27 0, Value.str "/claim/cut.py" 298] }
noncomputable def x77 (P : Params) : Obj := { cls := Value.type "frame", slots := #[some (Value.ref 76), some (Value.ref 3), some (Value.ref 73), none, some (Value.str "lua.values" 187), none, some (Value.ref 0)] }
noncomputable def x79 (P : Params) : Obj := { cls := Value.none, data := Data.fields #[] }
noncomputable def x82 (P : Params) : Obj := { cls := Value.none, data := Data.func { name := "__init__", qualname := "ApiError.__init__", params := mps 4 0, body := FuncBody.stmts (mbd 4 0), scope := msc 4 0, globals := 0, closure := [], defaults := Value.none, kwdefaults := Value.none } }
noncomputable def x89 (P : Params) : Obj := { cls := Value.type "super", data := Data.fields #[Value.ref 87, Value.ref 87, Value.ref 87] }
noncomputable def x90 (P : Params) : Obj := { cls := Value.type "builtin_function_or_method", data := Data.fields #[Value.builtin "object.__init_subclass__", Value.ref 87] }
noncomputable def x92 (P : Params) : Obj := { cls := Value.none, data := Data.fields #[] }
noncomputable def x95 (P : Params) : Obj := { cls := Value.none, data := Data.func { name := "wrap", qualname := "wrap", params := fps 5, body := FuncBody.stmts (fbd 5), scope := fsc 5, globals := 0, closure := [], defaults := Value.none, kwdefaults := Value.none } }
noncomputable def x99 (P : Params) : Obj := { cls := Value.none, data := Data.fields #[] }
noncomputable def x102 (P : Params) : Obj := { cls := Value.none, data := Data.func { name := "divide", qualname := "divide", params := fps 6, body := FuncBody.stmts (fbd 6), scope := fsc 6, globals := 0, closure := [], defaults := Value.none, kwdefaults := Value.none } }
noncomputable def x106 (P : Params) : Obj := { cls := Value.none, data := Data.fields #[] }
noncomputable def x109 (P : Params) : Obj := { cls := Value.none, data := Data.func { name := "power", qualname := "power", params := fps 7, body := FuncBody.stmts (fbd 7), scope := fsc 7, globals := 0, closure := [], defaults := Value.none, kwdefaults := Value.none } }
noncomputable def x113 (P : Params) : Obj := { cls := Value.none, data := Data.fields #[] }
noncomputable def x116 (P : Params) : Obj := { cls := Value.none, data := Data.func { name := "arith", qualname := "arith", params := fps 8, body := FuncBody.stmts (fbd 8), scope := fsc 8, globals := 0, closure := [], defaults := Value.none, kwdefaults := Value.none } }
noncomputable def x120 (P : Params) : Obj := { cls := Value.none, data := Data.fields #[] }
noncomputable def x123 (P : Params) : Obj := { cls := Value.none, data := Data.func { name := "is_blank", qualname := "is_blank", params := fps 9, body := FuncBody.stmts (fbd 9), scope := fsc 9, globals := 0, closure := [], defaults := Value.none, kwdefaults := Value.none } }
noncomputable def y168 (P : Params) : Obj := { cls := Value.type "dict", data := Data.dict #[{ hash := PyData.keyHash P "__name__", key := Value.str "__name__" 165, val := Value.str "law_nt0635_01" 448 }, { hash := PyData.keyHash P "__doc__", key := Value.str "__doc__" 166, val := Value.none }, { hash := PyData.keyHash P "__package__", key := Value.str "__package__" 167, val := Value.none }, { hash := PyData.keyHash P "__loader__", key := Value.str "__loader__" 168, val := Value.builtin "__main__.__loader__#opaque" }, { hash := PyData.keyHash P "__spec__", key := Value.str "__spec__" 169, val := Value.none }, { hash := PyData.keyHash P "__annotations__", key := Value.str "__annotations__" 170, val := Value.ref 6 }, { hash := PyData.keyHash P "__builtins__", key := Value.str "__builtins__" 171, val := Value.ref 4 }, { hash := PyData.keyHash P "__file__", key := Value.str "__file__" 173, val := Value.str "/claim/cut.py" 172 }, { hash := PyData.keyHash P "__cached__", key := Value.str "__cached__" 174, val := Value.none }, { hash := PyData.keyHash P "BLANKS", key := Value.str "BLANKS" 190, val := Value.bytes #[32, 9, 10, 11, 12, 13] 189 }, { hash := PyData.keyHash P "Limits", key := Value.str "Limits" 261, val := Value.ref 46 }, { hash := PyData.keyHash P "LuaError", key := Value.str "LuaError" 291, val := Value.ref 67 }, { hash := PyData.keyHash P "ApiError", key := Value.str "ApiError" 320, val := Value.ref 87 }, { hash := PyData.keyHash P "wrap", key := Value.str "wrap" 329, val := Value.ref 97 }, { hash := PyData.keyHash P "divide", key := Value.str "divide" 338, val := Value.ref 104 }, { hash := PyData.keyHash P "power", key := Value.str "power" 349, val := Value.ref 111 }, { hash := PyData.keyHash P "arith", key := Value.str "arith" 360, val := Value.ref 118 }, { hash := PyData.keyHash P "is_blank", key := Value.str "is_blank" 367, val := Value.ref 125 }, { hash := PyData.keyHash P "digit_of", key := Value.str "digit_of" 374, val := Value.ref 132 }, { hash := PyData.keyHash P "read_digits", key := Value.str "read_digits" 385, val := Value.ref 139 }, { hash := PyData.keyHash P "skip_blanks", key := Value.str "skip_blanks" 393, val := Value.ref 146 }, { hash := PyData.keyHash P "text_in_base", key := Value.str "text_in_base" 407, val := Value.ref 153 }, { hash := PyData.keyHash P "number_text", key := Value.str "number_text" 416, val := Value.ref 160 }, { hash := PyData.keyHash P "float_byte", key := Value.str "float_byte" 424, val := Value.ref 167 }, { hash := PyData.keyHash P "byte_float", key := Value.str "byte_float" 432, val := Value.ref 174 }, { hash := PyData.keyHash P "log2", key := Value.str "log2" 440, val := Value.ref 181 }, { hash := PyData.keyHash P "ceil_log2", key := Value.str "ceil_log2" 447, val := Value.ref 188 }, { hash := PyData.keyHash P "_law_ops", key := Value.str "_law_ops" 455, val := Value.ref 195 }, { hash := PyData.keyHash P "_law_cell", key := Value.str "_law_cell" 463, val := Value.ref 202 }, { hash := PyData.keyHash P "_law_cut", key := Value.str "_law_cut" 473, val := Value.ref 209 }] 30 }
noncomputable def y169 (P : Params) : Obj := { cls := Value.none, data := Data.fields #[Value.int 3 0, Value.int 0 0, Value.ref 20, Value.int 22 0, Value.int 0 0, Value.ref 56, Value.int 27 0, Value.int 0 0, Value.ref 76, Value.int 31 0, Value.int 0 0, Value.ref 96, Value.int 36 0, Value.int 0 0, Value.ref 103, Value.int 39 0, Value.int 0 0, Value.ref 110, Value.int 53 0, Value.int 0 0, Value.ref 117, Value.int 72 0, Value.int 0 0, Value.ref 124, Value.int 74 0, Value.int 0 0, Value.ref 131, Value.int 82 0, Value.int 0 0, Value.ref 138, Value.int 91 0, Value.int 0 0, Value.ref 145, Value.int 95 0, Value.int 0 0, Value.ref 152, Value.int 107 0, Value.int 0 0, Value.ref 159, Value.int 117 0, Value.int 0 0, Value.ref 166, Value.int 125 0, Value.int 0 0, Value.ref 173, Value.int 130 0, Value.int 0 0, Value.ref 180, Value.int 136 0, Value.int 0 0, Value.ref 187, Value.int 139 0, Value.int 0 0, Value.ref 194, Value.int 141 0, Value.int 0 0, Value.ref 201, Value.int 145 0, Value.int 0 0, Value.ref 208] }
noncomputable def x127 (P : Params) : Obj := { cls := Value.none, data := Data.fields #[] }
noncomputable def x130 (P : Params) : Obj := { cls := Value.none, data := Data.func { name := "digit_of", qualname := "digit_of", params := fps 10, body := FuncBody.stmts (fbd 10), scope := fsc 10, globals := 0, closure := [], defaults := Value.none, kwdefaults := Value.none } }
noncomputable def x134 (P : Params) : Obj := { cls := Value.none, data := Data.fields #[] }
noncomputable def x137 (P : Params) : Obj := { cls := Value.none, data := Data.func { name := "read_digits", qualname := "read_digits", params := fps 11, body := FuncBody.stmts (fbd 11), scope := fsc 11, globals := 0, closure := [], defaults := Value.none, kwdefaults := Value.none } }
noncomputable def x141 (P : Params) : Obj := { cls := Value.none, data := Data.fields #[] }
noncomputable def x144 (P : Params) : Obj := { cls := Value.none, data := Data.func { name := "skip_blanks", qualname := "skip_blanks", params := fps 12, body := FuncBody.stmts (fbd 12), scope := fsc 12, globals := 0, closure := [], defaults := Value.none, kwdefaults := Value.none } }
noncomputable def x148 (P : Params) : Obj := { cls := Value.none, data := Data.fields #[] }
noncomputable def x151 (P : Params) : Obj := { cls := Value.none, data := Data.func { name := "text_in_base", qualname := "text_in_base", params := fps 13, body := FuncBody.stmts (fbd 13), scope := fsc 13, globals := 0, closure := [], defaults := Value.none, kwdefaults := Value.none } }
noncomputable def x155 (P : Params) : Obj := { cls := Value.none, data := Data.fields #[] }
noncomputable def x158 (P : Params) : Obj := { cls := Value.none, data := Data.func { name := "number_text", qualname := "number_text", params := fps 14, body := FuncBody.stmts (fbd 14), scope := fsc 14, globals := 0, closure := [], defaults := Value.none, kwdefaults := Value.none } }
noncomputable def x162 (P : Params) : Obj := { cls := Value.none, data := Data.fields #[] }
noncomputable def x165 (P : Params) : Obj := { cls := Value.none, data := Data.func { name := "float_byte", qualname := "float_byte", params := fps 15, body := FuncBody.stmts (fbd 15), scope := fsc 16, globals := 0, closure := [], defaults := Value.none, kwdefaults := Value.none } }
noncomputable def x169 (P : Params) : Obj := { cls := Value.none, data := Data.fields #[] }
noncomputable def x172 (P : Params) : Obj := { cls := Value.none, data := Data.func { name := "byte_float", qualname := "byte_float", params := fps 16, body := FuncBody.stmts (fbd 16), scope := fsc 16, globals := 0, closure := [], defaults := Value.none, kwdefaults := Value.none } }
noncomputable def x176 (P : Params) : Obj := { cls := Value.none, data := Data.fields #[] }
noncomputable def x179 (P : Params) : Obj := { cls := Value.none, data := Data.func { name := "log2", qualname := "log2", params := fps 17, body := FuncBody.stmts (fbd 17), scope := fsc 17, globals := 0, closure := [], defaults := Value.none, kwdefaults := Value.none } }
noncomputable def x183 (P : Params) : Obj := { cls := Value.none, data := Data.fields #[] }
noncomputable def x186 (P : Params) : Obj := { cls := Value.none, data := Data.func { name := "ceil_log2", qualname := "ceil_log2", params := fps 18, body := FuncBody.stmts (fbd 18), scope := fsc 18, globals := 0, closure := [], defaults := Value.none, kwdefaults := Value.none } }
noncomputable def x190 (P : Params) : Obj := { cls := Value.none, data := Data.fields #[] }
noncomputable def x193 (P : Params) : Obj := { cls := Value.none, data := Data.func { name := "_law_ops", qualname := "_law_ops", params := fps 20, body := FuncBody.stmts (fbd 20), scope := fsc 20, globals := 0, closure := [], defaults := Value.none, kwdefaults := Value.none } }
noncomputable def x197 (P : Params) : Obj := { cls := Value.none, data := Data.fields #[] }
noncomputable def x200 (P : Params) : Obj := { cls := Value.none, data := Data.func { name := "_law_cell", qualname := "_law_cell", params := fps 21, body := FuncBody.stmts (fbd 21), scope := fsc 21, globals := 0, closure := [], defaults := Value.none, kwdefaults := Value.none } }
noncomputable def x204 (P : Params) : Obj := { cls := Value.none, data := Data.fields #[] }
noncomputable def x207 (P : Params) : Obj := { cls := Value.none, data := Data.func { name := "_law_cut", qualname := "_law_cut", params := fps 22, body := FuncBody.stmts (fbd 22), scope := fsc 22, globals := 0, closure := [], defaults := Value.none, kwdefaults := Value.none } }
noncomputable def y254 (P : Params) : Obj := { cls := Value.type "dict", data := Data.dict #[{ hash := PyData.keyHash P "__name__", key := Value.str "__name__" 165, val := Value.str "law_nt0635_01" 448 }, { hash := PyData.keyHash P "__doc__", key := Value.str "__doc__" 166, val := Value.none }, { hash := PyData.keyHash P "__package__", key := Value.str "__package__" 167, val := Value.none }, { hash := PyData.keyHash P "__loader__", key := Value.str "__loader__" 168, val := Value.builtin "__main__.__loader__#opaque" }, { hash := PyData.keyHash P "__spec__", key := Value.str "__spec__" 169, val := Value.none }, { hash := PyData.keyHash P "__annotations__", key := Value.str "__annotations__" 170, val := Value.ref 6 }, { hash := PyData.keyHash P "__builtins__", key := Value.str "__builtins__" 171, val := Value.ref 4 }, { hash := PyData.keyHash P "__file__", key := Value.str "__file__" 173, val := Value.str "/claim/cut.py" 172 }, { hash := PyData.keyHash P "__cached__", key := Value.str "__cached__" 174, val := Value.none }, { hash := PyData.keyHash P "BLANKS", key := Value.str "BLANKS" 190, val := Value.bytes #[32, 9, 10, 11, 12, 13] 189 }, { hash := PyData.keyHash P "Limits", key := Value.str "Limits" 261, val := Value.ref 46 }, { hash := PyData.keyHash P "LuaError", key := Value.str "LuaError" 291, val := Value.ref 67 }, { hash := PyData.keyHash P "ApiError", key := Value.str "ApiError" 320, val := Value.ref 87 }, { hash := PyData.keyHash P "wrap", key := Value.str "wrap" 329, val := Value.ref 97 }, { hash := PyData.keyHash P "divide", key := Value.str "divide" 338, val := Value.ref 104 }, { hash := PyData.keyHash P "power", key := Value.str "power" 349, val := Value.ref 111 }, { hash := PyData.keyHash P "arith", key := Value.str "arith" 360, val := Value.ref 118 }, { hash := PyData.keyHash P "is_blank", key := Value.str "is_blank" 367, val := Value.ref 125 }, { hash := PyData.keyHash P "digit_of", key := Value.str "digit_of" 374, val := Value.ref 132 }, { hash := PyData.keyHash P "read_digits", key := Value.str "read_digits" 385, val := Value.ref 139 }, { hash := PyData.keyHash P "skip_blanks", key := Value.str "skip_blanks" 393, val := Value.ref 146 }, { hash := PyData.keyHash P "text_in_base", key := Value.str "text_in_base" 407, val := Value.ref 153 }, { hash := PyData.keyHash P "number_text", key := Value.str "number_text" 416, val := Value.ref 160 }, { hash := PyData.keyHash P "float_byte", key := Value.str "float_byte" 424, val := Value.ref 167 }, { hash := PyData.keyHash P "byte_float", key := Value.str "byte_float" 432, val := Value.ref 174 }, { hash := PyData.keyHash P "log2", key := Value.str "log2" 440, val := Value.ref 181 }, { hash := PyData.keyHash P "ceil_log2", key := Value.str "ceil_log2" 447, val := Value.ref 188 }, { hash := PyData.keyHash P "_law_ops", key := Value.str "_law_ops" 455, val := Value.ref 195 }, { hash := PyData.keyHash P "_law_cell", key := Value.str "_law_cell" 463, val := Value.ref 202 }, { hash := PyData.keyHash P "_law_cut", key := Value.str "_law_cut" 473, val := Value.ref 209 }, { hash := PyData.keyHash P "_law_digits", key := Value.str "_law_digits" 482, val := Value.ref 216 }, { hash := PyData.keyHash P "_law_octets", key := Value.str "_law_octets" 488, val := Value.ref 221 }, { hash := PyData.keyHash P "_law_capitals", key := Value.str "_law_capitals" 494, val := Value.ref 226 }, { hash := PyData.keyHash P "_law_sort", key := Value.str "_law_sort" 502, val := Value.ref 233 }, { hash := PyData.keyHash P "_law_marked", key := Value.str "_law_marked" 512, val := Value.ref 240 }, { hash := PyData.keyHash P "_law_read", key := Value.str "_law_read" 528, val := Value.ref 247 }, { hash := PyData.keyHash P "_law_power", key := Value.str "_law_power" 539, val := Value.ref 254 }, { hash := PyData.keyHash P "_law_done", key := Value.str "_law_done" 551, val := Value.ref 261 }, { hash := PyData.keyHash P "_law_tried", key := Value.str "_law_tried" 561, val := Value.ref 268 }, { hash := PyData.keyHash P "_law_like", key := Value.str "_law_like" 569, val := Value.ref 275 }, { hash := PyData.keyHash P "_law_drawn", key := Value.str "_law_drawn" 575, val := Value.ref 280 }, { hash := PyData.keyHash P "_law_texts_right", key := Value.str "_law_texts_right" 590, val := Value.ref 287 }] 42 }
noncomputable def y255 (P : Params) : Obj := { cls := Value.none, data := Data.fields #[Value.int 3 0, Value.int 0 0, Value.ref 20, Value.int 22 0, Value.int 0 0, Value.ref 56, Value.int 27 0, Value.int 0 0, Value.ref 76, Value.int 31 0, Value.int 0 0, Value.ref 96, Value.int 36 0, Value.int 0 0, Value.ref 103, Value.int 39 0, Value.int 0 0, Value.ref 110, Value.int 53 0, Value.int 0 0, Value.ref 117, Value.int 72 0, Value.int 0 0, Value.ref 124, Value.int 74 0, Value.int 0 0, Value.ref 131, Value.int 82 0, Value.int 0 0, Value.ref 138, Value.int 91 0, Value.int 0 0, Value.ref 145, Value.int 95 0, Value.int 0 0, Value.ref 152, Value.int 107 0, Value.int 0 0, Value.ref 159, Value.int 117 0, Value.int 0 0, Value.ref 166, Value.int 125 0, Value.int 0 0, Value.ref 173, Value.int 130 0, Value.int 0 0, Value.ref 180, Value.int 136 0, Value.int 0 0, Value.ref 187, Value.int 139 0, Value.int 0 0, Value.ref 194, Value.int 141 0, Value.int 0 0, Value.ref 201, Value.int 145 0, Value.int 0 0, Value.ref 208, Value.int 149 0, Value.int 0 0, Value.ref 215, Value.int 155 0, Value.int 0 0, Value.ref 220, Value.int 158 0, Value.int 0 0, Value.ref 225, Value.int 160 0, Value.int 0 0, Value.ref 232, Value.int 169 0, Value.int 0 0, Value.ref 239, Value.int 174 0, Value.int 0 0, Value.ref 246, Value.int 190 0, Value.int 0 0, Value.ref 253, Value.int 196 0, Value.int 0 0, Value.ref 260, Value.int 213 0, Value.int 0 0, Value.ref 267, Value.int 218 0, Value.int 0 0, Value.ref 274, Value.int 222 0, Value.int 0 0, Value.ref 279, Value.int 226 0, Value.int 0 0, Value.ref 286] }
noncomputable def x211 (P : Params) : Obj := { cls := Value.none, data := Data.fields #[] }
noncomputable def x214 (P : Params) : Obj := { cls := Value.none, data := Data.func { name := "_law_digits", qualname := "_law_digits", params := fps 23, body := FuncBody.stmts (fbd 23), scope := fsc 23, globals := 0, closure := [], defaults := Value.none, kwdefaults := Value.none } }
noncomputable def x218 (P : Params) : Obj := { cls := Value.none, data := Data.fields #[] }
noncomputable def x219 (P : Params) : Obj := { cls := Value.none, data := Data.func { name := "_law_octets", qualname := "_law_octets", params := fps 24, body := FuncBody.stmts (fbd 24), scope := fsc 24, globals := 0, closure := [], defaults := Value.none, kwdefaults := Value.none } }
noncomputable def x223 (P : Params) : Obj := { cls := Value.none, data := Data.fields #[] }
noncomputable def x224 (P : Params) : Obj := { cls := Value.none, data := Data.func { name := "_law_capitals", qualname := "_law_capitals", params := fps 25, body := FuncBody.stmts (fbd 25), scope := fsc 25, globals := 0, closure := [], defaults := Value.none, kwdefaults := Value.none } }
noncomputable def x228 (P : Params) : Obj := { cls := Value.none, data := Data.fields #[] }
noncomputable def x231 (P : Params) : Obj := { cls := Value.none, data := Data.func { name := "_law_sort", qualname := "_law_sort", params := fps 26, body := FuncBody.stmts (fbd 26), scope := fsc 26, globals := 0, closure := [], defaults := Value.none, kwdefaults := Value.none } }
noncomputable def x235 (P : Params) : Obj := { cls := Value.none, data := Data.fields #[] }
noncomputable def x238 (P : Params) : Obj := { cls := Value.none, data := Data.func { name := "_law_marked", qualname := "_law_marked", params := fps 27, body := FuncBody.stmts (fbd 27), scope := fsc 27, globals := 0, closure := [], defaults := Value.none, kwdefaults := Value.none } }
noncomputable def x242 (P : Params) : Obj := { cls := Value.none, data := Data.fields #[] }
noncomputable def x245 (P : Params) : Obj := { cls := Value.none, data := Data.func { name := "_law_read", qualname := "_law_read", params := fps 28, body := FuncBody.stmts (fbd 28), scope := fsc 28, globals := 0, closure := [], defaults := Value.none, kwdefaults := Value.none } }
noncomputable def x249 (P : Params) : Obj := { cls := Value.none, data := Data.fields #[] }
noncomputable def x252 (P : Params) : Obj := { cls := Value.none, data := Data.func { name := "_law_power", qualname := "_law_power", params := fps 29, body := FuncBody.stmts (fbd 29), scope := fsc 29, globals := 0, closure := [], defaults := Value.none, kwdefaults := Value.none } }
noncomputable def x256 (P : Params) : Obj := { cls := Value.none, data := Data.fields #[] }
noncomputable def x259 (P : Params) : Obj := { cls := Value.none, data := Data.func { name := "_law_done", qualname := "_law_done", params := fps 30, body := FuncBody.stmts (fbd 30), scope := fsc 30, globals := 0, closure := [], defaults := Value.none, kwdefaults := Value.none } }
noncomputable def x263 (P : Params) : Obj := { cls := Value.none, data := Data.fields #[] }
noncomputable def x266 (P : Params) : Obj := { cls := Value.none, data := Data.func { name := "_law_tried", qualname := "_law_tried", params := fps 31, body := FuncBody.stmts (fbd 31), scope := fsc 31, globals := 0, closure := [], defaults := Value.none, kwdefaults := Value.none } }
noncomputable def x270 (P : Params) : Obj := { cls := Value.none, data := Data.fields #[] }
noncomputable def x273 (P : Params) : Obj := { cls := Value.none, data := Data.func { name := "_law_like", qualname := "_law_like", params := fps 32, body := FuncBody.stmts (fbd 32), scope := fsc 32, globals := 0, closure := [], defaults := Value.none, kwdefaults := Value.none } }
noncomputable def x277 (P : Params) : Obj := { cls := Value.none, data := Data.fields #[] }
noncomputable def x278 (P : Params) : Obj := { cls := Value.none, data := Data.func { name := "_law_drawn", qualname := "_law_drawn", params := fps 33, body := FuncBody.stmts (fbd 33), scope := fsc 33, globals := 0, closure := [], defaults := Value.none, kwdefaults := Value.none } }
noncomputable def x282 (P : Params) : Obj := { cls := Value.none, data := Data.fields #[] }
noncomputable def x285 (P : Params) : Obj := { cls := Value.none, data := Data.func { name := "_law_texts_right", qualname := "_law_texts_right", params := fps 34, body := FuncBody.stmts (fbd 34), scope := fsc 34, globals := 0, closure := [], defaults := Value.none, kwdefaults := Value.none } }
noncomputable def x12 (P : Params) : Obj := { cls := Value.none, data := Data.fields #[Value.int 3 0, Value.int 0 0, Value.ref 20, Value.int 22 0, Value.int 0 0, Value.ref 56, Value.int 27 0, Value.int 0 0, Value.ref 76, Value.int 31 0, Value.int 0 0, Value.ref 96, Value.int 36 0, Value.int 0 0, Value.ref 103, Value.int 39 0, Value.int 0 0, Value.ref 110, Value.int 53 0, Value.int 0 0, Value.ref 117, Value.int 72 0, Value.int 0 0, Value.ref 124, Value.int 74 0, Value.int 0 0, Value.ref 131, Value.int 82 0, Value.int 0 0, Value.ref 138, Value.int 91 0, Value.int 0 0, Value.ref 145, Value.int 95 0, Value.int 0 0, Value.ref 152, Value.int 107 0, Value.int 0 0, Value.ref 159, Value.int 117 0, Value.int 0 0, Value.ref 166, Value.int 125 0, Value.int 0 0, Value.ref 173, Value.int 130 0, Value.int 0 0, Value.ref 180, Value.int 136 0, Value.int 0 0, Value.ref 187, Value.int 139 0, Value.int 0 0, Value.ref 194, Value.int 141 0, Value.int 0 0, Value.ref 201, Value.int 145 0, Value.int 0 0, Value.ref 208, Value.int 149 0, Value.int 0 0, Value.ref 215, Value.int 155 0, Value.int 0 0, Value.ref 220, Value.int 158 0, Value.int 0 0, Value.ref 225, Value.int 160 0, Value.int 0 0, Value.ref 232, Value.int 169 0, Value.int 0 0, Value.ref 239, Value.int 174 0, Value.int 0 0, Value.ref 246, Value.int 190 0, Value.int 0 0, Value.ref 253, Value.int 196 0, Value.int 0 0, Value.ref 260, Value.int 213 0, Value.int 0 0, Value.ref 267, Value.int 218 0, Value.int 0 0, Value.ref 274, Value.int 222 0, Value.int 0 0, Value.ref 279, Value.int 226 0, Value.int 0 0, Value.ref 286, Value.int 235 0, Value.int 0 0, Value.ref 293, Value.int 247 0, Value.int 0 0, Value.ref 300, Value.int 255 0, Value.int 0 0, Value.ref 307] }
noncomputable def x289 (P : Params) : Obj := { cls := Value.none, data := Data.fields #[] }
noncomputable def x292 (P : Params) : Obj := { cls := Value.none, data := Data.func { name := "_law_rings_right", qualname := "_law_rings_right", params := fps 35, body := FuncBody.stmts (fbd 35), scope := fsc 35, globals := 0, closure := [], defaults := Value.none, kwdefaults := Value.none } }
noncomputable def x296 (P : Params) : Obj := { cls := Value.none, data := Data.fields #[] }
noncomputable def x299 (P : Params) : Obj := { cls := Value.none, data := Data.func { name := "_law_sizes_right", qualname := "_law_sizes_right", params := fps 36, body := FuncBody.stmts (fbd 36), scope := fsc 36, globals := 0, closure := [], defaults := Value.none, kwdefaults := Value.none } }
noncomputable def x303 (P : Params) : Obj := { cls := Value.none, data := Data.fields #[] }
noncomputable def x306 (P : Params) : Obj := { cls := Value.none, data := Data.func { name := "law", qualname := "law", params := fps 37, body := FuncBody.stmts (fbd 37), scope := fsc 37, globals := 0, closure := [], defaults := Value.none, kwdefaults := Value.none } }
noncomputable def T0 (P : Params) : BT := .node (PySem.W.boot_o_0 P) (.node (PySem.W.boot_o_1 P) (.node (PySem.W.boot_o_3 P) (.node (PySem.W.boot_o_7 P) .nil .nil) (.node (x11 P) .nil .nil)) (.node (PySem.W.boot_o_5 P) (.node (PySem.W.boot_o_9 P) .nil .nil) (.node (x13 P) .nil .nil))) (.node (PySem.W.boot_o_2 P) (.node (PySem.W.boot_o_4 P) (.node (PySem.W.boot_o_8 P) .nil .nil) (.node (y44 P) .nil .nil)) (.node (PySem.W.boot_o_6 P) (.node (PySem.W.boot_o_10 P) .nil .nil) (.node (x14 P) .nil .nil)))
noncomputable def T1 (P : Params) : BT := .node (PySem.W.boot_o_0 P) (.node (PySem.W.boot_o_1 P) (.node (y49 P) (.node (PySem.W.boot_o_7 P) (.node (x15 P) (.node (x31 P) .nil .nil) (.node (k47 P) .nil .nil)) (.node (k23 P) (.node (k39 P) .nil .nil) .nil)) (.node (x11 P) (.node (x19 P) (.node (k35 P) .nil .nil) .nil) (.node (x27 P) (.node (k43 P) .nil .nil) .nil))) (.node (PySem.W.boot_o_5 P) (.node (PySem.W.boot_o_9 P) (.node (x17 P) (.node (k33 P) .nil .nil) (.node (x49 P) .nil .nil)) (.node (k25 P) (.node (x41 P) .nil .nil) .nil)) (.node (x13 P) (.node (x21 P) (.node (k37 P) .nil .nil) .nil) (.node (k29 P) (.node (k45 P) .nil .nil) .nil)))) (.node (PySem.W.boot_o_2 P) (.node (PySem.W.boot_o_4 P) (.node (PySem.W.boot_o_8 P) (.node (x16 P) (.node (k32 P) .nil .nil) (.node (k48 P) .nil .nil)) (.node (x24 P) (.node (k40 P) .nil .nil) .nil)) (.node (y50 P) (.node (x20 P) (.node (k36 P) .nil .nil) .nil) (.node (k28 P) (.node (k44 P) .nil .nil) .nil))) (.node (PySem.W.boot_o_6 P) (.node (PySem.W.boot_o_10 P) (.node (x18 P) (.node (x34 P) .nil .nil) (.node (x50 P) .nil .nil)) (.node (k26 P) (.node (k42 P) .nil .nil) .nil)) (.node (x14 P) (.node (k22 P) (.node (x38 P) .nil .nil) .nil) (.node (k30 P) (.node (k46 P) .nil .nil) .nil))))
noncomputable def T2 (P : Params) : BT := .node (PySem.W.boot_o_0 P) (.node (PySem.W.boot_o_1 P) (.node (y88 P) (.node (PySem.W.boot_o_7 P) (.node (x15 P) (.node (x31 P) (.node (k63 P) .nil .nil) .nil) (.node (k47 P) .nil .nil)) (.node (k23 P) (.node (k39 P) .nil .nil) (.node (x55 P) .nil .nil))) (.node (x11 P) (.node (x19 P) (.node (k35 P) (.node (k67 P) .nil .nil) .nil) (.node (k51 P) .nil .nil)) (.node (x27 P) (.node (k43 P) .nil .nil) (.node (x59 P) .nil .nil)))) (.node (PySem.W.boot_o_5 P) (.node (PySem.W.boot_o_9 P) (.node (x17 P) (.node (k33 P) (.node (k65 P) .nil .nil) .nil) (.node (x49 P) .nil .nil)) (.node (k25 P) (.node (x41 P) .nil .nil) (.node (x57 P) .nil .nil))) (.node (x13 P) (.node (x21 P) (.node (k37 P) (.node (x69 P) .nil .nil) .nil) (.node (x53 P) .nil .nil)) (.node (k29 P) (.node (k45 P) .nil .nil) (.node (k61 P) .nil .nil))))) (.node (y87 P) (.node (PySem.W.boot_o_4 P) (.node (PySem.W.boot_o_8 P) (.node (x16 P) (.node (k32 P) (.node (k64 P) .nil .nil) .nil) (.node (k48 P) .nil .nil)) (.node (x24 P) (.node (k40 P) .nil .nil) (.node (x56 P) .nil .nil))) (.node (y89 P) (.node (x20 P) (.node (k36 P) (.node (k68 P) .nil .nil) .nil) (.node (x52 P) .nil .nil)) (.node (k28 P) (.node (k44 P) .nil .nil) (.node (k60 P) .nil .nil)))) (.node (PySem.W.boot_o_6 P) (.node (PySem.W.boot_o_10 P) (.node (x18 P) (.node (x34 P) (.node (k66 P) .nil .nil) .nil) (.node (x50 P) .nil .nil)) (.node (k26 P) (.node (k42 P) .nil .nil) (.node (k58 P) .nil .nil))) (.node (x14 P) (.node (k22 P) (.node (x38 P) (.node (x70 P) .nil .nil) .nil) (.node (x54 P) .nil .nil)) (.node (k30 P) (.node (k46 P) .nil .nil) (.node (x62 P) .nil .nil)))))
noncomputable def T3 (P : Params) : BT := .node (PySem.W.boot_o_0 P) (.node (PySem.W.boot_o_1 P) (.node (y111 P) (.node (PySem.W.boot_o_7 P) (.node (x15 P) (.node (x31 P) (.node (k63 P) .nil .nil) (.node (x95 P) .nil .nil)) (.node (k47 P) (.node (x79 P) .nil .nil) (.node (k111 P) .nil .nil))) (.node (k23 P) (.node (k39 P) (.node (k71 P) .nil .nil) (.node (k103 P) .nil .nil)) (.node (x55 P) (.node (k87 P) .nil .nil) (.node (k119 P) .nil .nil)))) (.node (x11 P) (.node (x19 P) (.node (k35 P) (.node (k67 P) .nil .nil) (.node (x99 P) .nil .nil)) (.node (k51 P) (.node (k83 P) .nil .nil) (.node (k115 P) .nil .nil))) (.node (x27 P) (.node (k43 P) (.node (x75 P) .nil .nil) (.node (k107 P) .nil .nil)) (.node (x59 P) (.node (k91 P) .nil .nil) (.node (x123 P) .nil .nil))))) (.node (PySem.W.boot_o_5 P) (.node (PySem.W.boot_o_9 P) (.node (x17 P) (.node (k33 P) (.node (k65 P) .nil .nil) (.node (k97 P) .nil .nil)) (.node (x49 P) (.node (k81 P) .nil .nil) (.node (x113 P) .nil .nil))) (.node (k25 P) (.node (x41 P) (.node (x73 P) .nil .nil) (.node (k105 P) .nil .nil)) (.node (x57 P) (.node (x89 P) .nil .nil) (.node (k121 P) .nil .nil)))) (.node (x13 P) (.node (x21 P) (.node (k37 P) (.node (x69 P) .nil .nil) (.node (k101 P) .nil .nil)) (.node (x53 P) (.node (k85 P) .nil .nil) (.node (k117 P) .nil .nil))) (.node (k29 P) (.node (k45 P) (.node (x77 P) .nil .nil) (.node (x109 P) .nil .nil)) (.node (k61 P) (.node (k93 P) .nil .nil) (.node (k125 P) .nil .nil)))))) (.node (k2 P) (.node (PySem.W.boot_o_4 P) (.node (PySem.W.boot_o_8 P) (.node (x16 P) (.node (k32 P) (.node (k64 P) .nil .nil) (.node (k96 P) .nil .nil)) (.node (k48 P) (.node (k80 P) .nil .nil) (.node (k112 P) .nil .nil))) (.node (x24 P) (.node (k40 P) (.node (x72 P) .nil .nil) (.node (k104 P) .nil .nil)) (.node (x56 P) (.node (k88 P) .nil .nil) (.node (x120 P) .nil .nil)))) (.node (y112 P) (.node (x20 P) (.node (k36 P) (.node (k68 P) .nil .nil) (.node (k100 P) .nil .nil)) (.node (x52 P) (.node (k84 P) .nil .nil) (.node (x116 P) .nil .nil))) (.node (k28 P) (.node (k44 P) (.node (x76 P) .nil .nil) (.node (k108 P) .nil .nil)) (.node (k60 P) (.node (x92 P) .nil .nil) (.node (k124 P) .nil .nil))))) (.node (PySem.W.boot_o_6 P) (.node (PySem.W.boot_o_10 P) (.node (x18 P) (.node (x34 P) (.node (k66 P) .nil .nil) (.node (k98 P) .nil .nil)) (.node (x50 P) (.node (x82 P) .nil .nil) (.node (k114 P) .nil .nil))) (.node (k26 P) (.node (k42 P) (.node (x74 P) .nil .nil) (.node (x106 P) .nil .nil)) (.node (k58 P) (.node (x90 P) .nil .nil) (.node (k122 P) .nil .nil)))) (.node (x14 P) (.node (k22 P) (.node (x38 P) (.node (x70 P) .nil .nil) (.node (x102 P) .nil .nil)) (.node (x54 P) (.node (k86 P) .nil .nil) (.node (k118 P) .nil .nil))) (.node (k30 P) (.node (k46 P) (.node (k78 P) .nil .nil) (.node (k110 P) .nil .nil)) (.node (x62 P) (.node (k94 P) .nil .nil) .nil)))))
noncomputable def T4 (P : Params) : BT := .node (PySem.W.boot_o_0 P) (.node (PySem.W.boot_o_1 P) (.node (y168 P) (.node (PySem.W.boot_o_7 P) (.node (x15 P) (.node (x31 P) (.node (k63 P) (.node (x127 P) .nil .nil) (.node (k191 P) .nil .nil)) (.node (x95 P) (.node (k159 P) .nil .nil) .nil)) (.node (k47 P) (.node (x79 P) (.node (k143 P) .nil .nil) (.node (x207 P) .nil .nil)) (.node (k111 P) (.node (k175 P) .nil .nil) .nil))) (.node (k23 P) (.node (k39 P) (.node (k71 P) (.node (k135 P) .nil .nil) (.node (k199 P) .nil .nil)) (.node (k103 P) (.node (k167 P) .nil .nil) .nil)) (.node (x55 P) (.node (k87 P) (.node (x151 P) .nil .nil) .nil) (.node (k119 P) (.node (x183 P) .nil .nil) .nil)))) (.node (x11 P) (.node (x19 P) (.node (k35 P) (.node (k67 P) (.node (k131 P) .nil .nil) (.node (k195 P) .nil .nil)) (.node (x99 P) (.node (k163 P) .nil .nil) .nil)) (.node (k51 P) (.node (k83 P) (.node (k147 P) .nil .nil) .nil) (.node (k115 P) (.node (x179 P) .nil .nil) .nil))) (.node (x27 P) (.node (k43 P) (.node (x75 P) (.node (k139 P) .nil .nil) (.node (k203 P) .nil .nil)) (.node (k107 P) (.node (k171 P) .nil .nil) .nil)) (.node (x59 P) (.node (k91 P) (.node (x155 P) .nil .nil) .nil) (.node (x123 P) (.node (k187 P) .nil .nil) .nil))))) (.node (PySem.W.boot_o_5 P) (.node (PySem.W.boot_o_9 P) (.node (x17 P) (.node (k33 P) (.node (k65 P) (.node (k129 P) .nil .nil) (.node (x193 P) .nil .nil)) (.node (k97 P) (.node (k161 P) .nil .nil) .nil)) (.node (x49 P) (.node (k81 P) (.node (k145 P) .nil .nil) (.node (k209 P) .nil .nil)) (.node (x113 P) (.node (k177 P) .nil .nil) .nil))) (.node (k25 P) (.node (x41 P) (.node (x73 P) (.node (x137 P) .nil .nil) (.node (k201 P) .nil .nil)) (.node (k105 P) (.node (x169 P) .nil .nil) .nil)) (.node (x57 P) (.node (x89 P) (.node (k153 P) .nil .nil) .nil) (.node (k121 P) (.node (k185 P) .nil .nil) .nil)))) (.node (x13 P) (.node (x21 P) (.node (k37 P) (.node (x69 P) (.node (k133 P) .nil .nil) (.node (x197 P) .nil .nil)) (.node (k101 P) (.node (x165 P) .nil .nil) .nil)) (.node (x53 P) (.node (k85 P) (.node (k149 P) .nil .nil) .nil) (.node (k117 P) (.node (k181 P) .nil .nil) .nil))) (.node (k29 P) (.node (k45 P) (.node (x77 P) (.node (x141 P) .nil .nil) (.node (k205 P) .nil .nil)) (.node (x109 P) (.node (k173 P) .nil .nil) .nil)) (.node (k61 P) (.node (k93 P) (.node (k157 P) .nil .nil) .nil) (.node (k125 P) (.node (k189 P) .nil .nil) .nil)))))) (.node (k2 P) (.node (PySem.W.boot_o_4 P) (.node (PySem.W.boot_o_8 P) (.node (x16 P) (.node (k32 P) (.node (k64 P) (.node (k128 P) .nil .nil) (.node (k192 P) .nil .nil)) (.node (k96 P) (.node (k160 P) .nil .nil) .nil)) (.node (k48 P) (.node (k80 P) (.node (x144 P) .nil .nil) (.node (k208 P) .nil .nil)) (.node (k112 P) (.node (x176 P) .nil .nil) .nil))) (.node (x24 P) (.node (k40 P) (.node (x72 P) (.node (k136 P) .nil .nil) (.node (x200 P) .nil .nil)) (.node (k104 P) (.node (k168 P) .nil .nil) .nil)) (.node (x56 P) (.node (k88 P) (.node (k152 P) .nil .nil) .nil) (.node (x120 P) (.node (k184 P) .nil .nil) .nil)))) (.node (y169 P) (.node (x20 P) (.node (k36 P) (.node (k68 P) (.node (k132 P) .nil .nil) (.node (k196 P) .nil .nil)) (.node (k100 P) (.node (k164 P) .nil .nil) .nil)) (.node (x52 P) (.node (k84 P) (.node (x148 P) .nil .nil) .nil) (.node (x116 P) (.node (k180 P) .nil .nil) .nil))) (.node (k28 P) (.node (k44 P) (.node (x76 P) (.node (k140 P) .nil .nil) (.node (x204 P) .nil .nil)) (.node (k108 P) (.node (x172 P) .nil .nil) .nil)) (.node (k60 P) (.node (x92 P) (.node (k156 P) .nil .nil) .nil) (.node (k124 P) (.node (k188 P) .nil .nil) .nil))))) (.node (PySem.W.boot_o_6 P) (.node (PySem.W.boot_o_10 P) (.node (x18 P) (.node (x34 P) (.node (k66 P) (.node (x130 P) .nil .nil) (.node (k194 P) .nil .nil)) (.node (k98 P) (.node (x162 P) .nil .nil) .nil)) (.node (x50 P) (.node (x82 P) (.node (k146 P) .nil .nil) .nil) (.node (k114 P) (.node (k178 P) .nil .nil) .nil))) (.node (k26 P) (.node (k42 P) (.node (x74 P) (.node (k138 P) .nil .nil) (.node (k202 P) .nil .nil)) (.node (x106 P) (.node (k170 P) .nil .nil) .nil)) (.node (k58 P) (.node (x90 P) (.node (k154 P) .nil .nil) .nil) (.node (k122 P) (.node (x186 P) .nil .nil) .nil)))) (.node (x14 P) (.node (k22 P) (.node (x38 P) (.node (x70 P) (.node (x134 P) .nil .nil) (.node (k198 P) .nil .nil)) (.node (x102 P) (.node (k166 P) .nil .nil) .nil)) (.node (x54 P) (.node (k86 P) (.node (k150 P) .nil .nil) .nil) (.node (k118 P) (.node (k182 P) .nil .nil) .nil))) (.node (k30 P) (.node (k46 P) (.node (k78 P) (.node (k142 P) .nil .nil) (.node (k206 P) .nil .nil)) (.node (k110 P) (.node (k174 P) .nil .nil) .nil)) (.node (x62 P) (.node (k94 P) (.node (x158 P) .nil .nil) .nil) (.node (k126 P) (.node (x190 P) .nil .nil) .nil))))))
noncomputable def T5 (P : Params) : BT := .node (PySem.W.boot_o_0 P) (.node (PySem.W.boot_o_1 P) (.node (y254 P) (.node (PySem.W.boot_o_7 P) (.node (x15 P) (.node (x31 P) (.node (k63 P) (.node (x127 P) (.node (k255 P) .nil .nil) .nil) (.node (k191 P) .nil .nil)) (.node (x95 P) (.node (k159 P) (.node (k287 P) .nil .nil) .nil) (.node (x223 P) .nil .nil))) (.node (k47 P) (.node (x79 P) (.node (k143 P) (.node (k271 P) .nil .nil) .nil) (.node (x207 P) .nil .nil)) (.node (k111 P) (.node (k175 P) .nil .nil) (.node (k239 P) .nil .nil)))) (.node (k23 P) (.node (k39 P) (.node (k71 P) (.node (k135 P) (.node (x263 P) .nil .nil) .nil) (.node (k199 P) .nil .nil)) (.node (k103 P) (.node (k167 P) .nil .nil) (.node (x231 P) .nil .nil))) (.node (x55 P) (.node (k87 P) (.node (x151 P) (.node (k279 P) .nil .nil) .nil) (.node (k215 P) .nil .nil)) (.node (k119 P) (.node (x183 P) .nil .nil) (.node (k247 P) .nil .nil))))) (.node (x11 P) (.node (x19 P) (.node (k35 P) (.node (k67 P) (.node (k131 P) (.node (x259 P) .nil .nil) .nil) (.node (k195 P) .nil .nil)) (.node (x99 P) (.node (k163 P) .nil .nil) (.node (k227 P) .nil .nil))) (.node (k51 P) (.node (k83 P) (.node (k147 P) (.node (k275 P) .nil .nil) .nil) (.node (x211 P) .nil .nil)) (.node (k115 P) (.node (x179 P) .nil .nil) (.node (k243 P) .nil .nil)))) (.node (x27 P) (.node (k43 P) (.node (x75 P) (.node (k139 P) (.node (k267 P) .nil .nil) .nil) (.node (k203 P) .nil .nil)) (.node (k107 P) (.node (k171 P) .nil .nil) (.node (x235 P) .nil .nil))) (.node (x59 P) (.node (k91 P) (.node (x155 P) (.node (k283 P) .nil .nil) .nil) (.node (x219 P) .nil .nil)) (.node (x123 P) (.node (k187 P) .nil .nil) (.node (k251 P) .nil .nil)))))) (.node (PySem.W.boot_o_5 P) (.node (PySem.W.boot_o_9 P) (.node (x17 P) (.node (k33 P) (.node (k65 P) (.node (k129 P) (.node (k257 P) .nil .nil) .nil) (.node (x193 P) .nil .nil)) (.node (k97 P) (.node (k161 P) .nil .nil) (.node (k225 P) .nil .nil))) (.node (x49 P) (.node (k81 P) (.node (k145 P) (.node (x273 P) .nil .nil) .nil) (.node (k209 P) .nil .nil)) (.node (x113 P) (.node (k177 P) .nil .nil) (.node (k241 P) .nil .nil)))) (.node (k25 P) (.node (x41 P) (.node (x73 P) (.node (x137 P) (.node (k265 P) .nil .nil) .nil) (.node (k201 P) .nil .nil)) (.node (k105 P) (.node (x169 P) .nil .nil) (.node (k233 P) .nil .nil))) (.node (x57 P) (.node (x89 P) (.node (k153 P) (.node (k281 P) .nil .nil) .nil) (.node (k217 P) .nil .nil)) (.node (k121 P) (.node (k185 P) .nil .nil) (.node (x249 P) .nil .nil))))) (.node (x13 P) (.node (x21 P) (.node (k37 P) (.node (x69 P) (.node (k133 P) (.node (k261 P) .nil .nil) .nil) (.node (x197 P) .nil .nil)) (.node (k101 P) (.node (x165 P) .nil .nil) (.node (k229 P) .nil .nil))) (.node (x53 P) (.node (k85 P) (.node (k149 P) (.node (x277 P) .nil .nil) .nil) (.node (k213 P) .nil .nil)) (.node (k117 P) (.node (k181 P) .nil .nil) (.node (x245 P) .nil .nil)))) (.node (k29 P) (.node (k45 P) (.node (x77 P) (.node (x141 P) (.node (k269 P) .nil .nil) .nil) (.node (k205 P) .nil .nil)) (.node (x109 P) (.node (k173 P) .nil .nil) (.node (k237 P) .nil .nil))) (.node (k61 P) (.node (k93 P) (.node (k157 P) (.node (x285 P) .nil .nil) .nil) (.node (k221 P) .nil .nil)) (.node (k125 P) (.node (k189 P) .nil .nil) (.node (k253 P) .nil .nil))))))) (.node (k2 P) (.node (PySem.W.boot_o_4 P) (.node (PySem.W.boot_o_8 P) (.node (x16 P) (.node (k32 P) (.node (k64 P) (.node (k128 P) (.node (x256 P) .nil .nil) .nil) (.node (k192 P) .nil .nil)) (.node (k96 P) (.node (k160 P) .nil .nil) (.node (x224 P) .nil .nil))) (.node (k48 P) (.node (k80 P) (.node (x144 P) (.node (k272 P) .nil .nil) .nil) (.node (k208 P) .nil .nil)) (.node (k112 P) (.node (x176 P) .nil .nil) (.node (k240 P) .nil .nil)))) (.node (x24 P) (.node (k40 P) (.node (x72 P) (.node (k136 P) (.node (k264 P) .nil .nil) .nil) (.node (x200 P) .nil .nil)) (.node (k104 P) (.node (k168 P) .nil .nil) (.node (k232 P) .nil .nil))) (.node (x56 P) (.node (k88 P) (.node (k152 P) (.node (k280 P) .nil .nil) .nil) (.node (k216 P) .nil .nil)) (.node (x120 P) (.node (k184 P) .nil .nil) (.node (k248 P) .nil .nil))))) (.node (y255 P) (.node (x20 P) (.node (k36 P) (.node (k68 P) (.node (k132 P) (.node (k260 P) .nil .nil) .nil) (.node (k196 P) .nil .nil)) (.node (k100 P) (.node (k164 P) .nil .nil) (.node (x228 P) .nil .nil))) (.node (x52 P) (.node (k84 P) (.node (x148 P) (.node (k276 P) .nil .nil) .nil) (.node (k212 P) .nil .nil)) (.node (x116 P) (.node (k180 P) .nil .nil) (.node (k244 P) .nil .nil)))) (.node (k28 P) (.node (k44 P) (.node (x76 P) (.node (k140 P) (.node (k268 P) .nil .nil) .nil) (.node (x204 P) .nil .nil)) (.node (k108 P) (.node (x172 P) .nil .nil) (.node (k236 P) .nil .nil))) (.node (k60 P) (.node (x92 P) (.node (k156 P) (.node (k284 P) .nil .nil) .nil) (.node (k220 P) .nil .nil)) (.node (k124 P) (.node (k188 P) .nil .nil) (.node (x252 P) .nil .nil)))))) (.node (PySem.W.boot_o_6 P) (.node (PySem.W.boot_o_10 P) (.node (x18 P) (.node (x34 P) (.node (k66 P) (.node (x130 P) (.node (k258 P) .nil .nil) .nil) (.node (k194 P) .nil .nil)) (.node (k98 P) (.node (x162 P) .nil .nil) (.node (k226 P) .nil .nil))) (.node (x50 P) (.node (x82 P) (.node (k146 P) (.node (k274 P) .nil .nil) .nil) (.node (k210 P) .nil .nil)) (.node (k114 P) (.node (k178 P) .nil .nil) (.node (x242 P) .nil .nil)))) (.node (k26 P) (.node (k42 P) (.node (x74 P) (.node (k138 P) (.node (x266 P) .nil .nil) .nil) (.node (k202 P) .nil .nil)) (.node (x106 P) (.node (k170 P) .nil .nil) (.node (k234 P) .nil .nil))) (.node (k58 P) (.node (x90 P) (.node (k154 P) (.node (x282 P) .nil .nil) .nil) (.node (x218 P) .nil .nil)) (.node (k122 P) (.node (x186 P) .nil .nil) (.node (k250 P) .nil .nil))))) (.node (x14 P) (.node (k22 P) (.node (x38 P) (.node (x70 P) (.node (x134 P) (.node (k262 P) .nil .nil) .nil) (.node (k198 P) .nil .nil)) (.node (x102 P) (.node (k166 P) .nil .nil) (.node (k230 P) .nil .nil))) (.node (x54 P) (.node (k86 P) (.node (k150 P) (.node (x278 P) .nil .nil) .nil) (.node (x214 P) .nil .nil)) (.node (k118 P) (.node (k182 P) .nil .nil) (.node (k246 P) .nil .nil)))) (.node (k30 P) (.node (k46 P) (.node (k78 P) (.node (k142 P) (.node (x270 P) .nil .nil) .nil) (.node (k206 P) .nil .nil)) (.node (k110 P) (.node (k174 P) .nil .nil) (.node (x238 P) .nil .nil))) (.node (x62 P) (.node (k94 P) (.node (x158 P) (.node (k286 P) .nil .nil) .nil) (.node (k222 P) .nil .nil)) (.node (k126 P) (.node (x190 P) .nil .nil) (.node (k254 P) .nil .nil)))))))
noncomputable def T6 (P : Params) : BT := .node (PySem.W.boot_o_0 P) (.node (PySem.W.boot_o_1 P) (.node (k3 P) (.node (PySem.W.boot_o_7 P) (.node (x15 P) (.node (x31 P) (.node (k63 P) (.node (x127 P) (.node (k255 P) .nil .nil) .nil) (.node (k191 P) .nil .nil)) (.node (x95 P) (.node (k159 P) (.node (k287 P) .nil .nil) .nil) (.node (x223 P) .nil .nil))) (.node (k47 P) (.node (x79 P) (.node (k143 P) (.node (k271 P) .nil .nil) .nil) (.node (x207 P) .nil .nil)) (.node (k111 P) (.node (k175 P) (.node (x303 P) .nil .nil) .nil) (.node (k239 P) .nil .nil)))) (.node (k23 P) (.node (k39 P) (.node (k71 P) (.node (k135 P) (.node (x263 P) .nil .nil) .nil) (.node (k199 P) .nil .nil)) (.node (k103 P) (.node (k167 P) (.node (k295 P) .nil .nil) .nil) (.node (x231 P) .nil .nil))) (.node (x55 P) (.node (k87 P) (.node (x151 P) (.node (k279 P) .nil .nil) .nil) (.node (k215 P) .nil .nil)) (.node (k119 P) (.node (x183 P) .nil .nil) (.node (k247 P) .nil .nil))))) (.node (x11 P) (.node (x19 P) (.node (k35 P) (.node (k67 P) (.node (k131 P) (.node (x259 P) .nil .nil) .nil) (.node (k195 P) .nil .nil)) (.node (x99 P) (.node (k163 P) (.node (k291 P) .nil .nil) .nil) (.node (k227 P) .nil .nil))) (.node (k51 P) (.node (k83 P) (.node (k147 P) (.node (k275 P) .nil .nil) .nil) (.node (x211 P) .nil .nil)) (.node (k115 P) (.node (x179 P) (.node (k307 P) .nil .nil) .nil) (.node (k243 P) .nil .nil)))) (.node (x27 P) (.node (k43 P) (.node (x75 P) (.node (k139 P) (.node (k267 P) .nil .nil) .nil) (.node (k203 P) .nil .nil)) (.node (k107 P) (.node (k171 P) (.node (x299 P) .nil .nil) .nil) (.node (x235 P) .nil .nil))) (.node (x59 P) (.node (k91 P) (.node (x155 P) (.node (k283 P) .nil .nil) .nil) (.node (x219 P) .nil .nil)) (.node (x123 P) (.node (k187 P) .nil .nil) (.node (k251 P) .nil .nil)))))) (.node (PySem.W.boot_o_5 P) (.node (PySem.W.boot_o_9 P) (.node (x17 P) (.node (k33 P) (.node (k65 P) (.node (k129 P) (.node (k257 P) .nil .nil) .nil) (.node (x193 P) .nil .nil)) (.node (k97 P) (.node (k161 P) (.node (x289 P) .nil .nil) .nil) (.node (k225 P) .nil .nil))) (.node (x49 P) (.node (k81 P) (.node (k145 P) (.node (x273 P) .nil .nil) .nil) (.node (k209 P) .nil .nil)) (.node (x113 P) (.node (k177 P) (.node (k305 P) .nil .nil) .nil) (.node (k241 P) .nil .nil)))) (.node (k25 P) (.node (x41 P) (.node (x73 P) (.node (x137 P) (.node (k265 P) .nil .nil) .nil) (.node (k201 P) .nil .nil)) (.node (k105 P) (.node (x169 P) (.node (k297 P) .nil .nil) .nil) (.node (k233 P) .nil .nil))) (.node (x57 P) (.node (x89 P) (.node (k153 P) (.node (k281 P) .nil .nil) .nil) (.node (k217 P) .nil .nil)) (.node (k121 P) (.node (k185 P) .nil .nil) (.node (x249 P) .nil .nil))))) (.node (x13 P) (.node (x21 P) (.node (k37 P) (.node (x69 P) (.node (k133 P) (.node (k261 P) .nil .nil) .nil) (.node (x197 P) .nil .nil)) (.node (k101 P) (.node (x165 P) (.node (k293 P) .nil .nil) .nil) (.node (k229 P) .nil .nil))) (.node (x53 P) (.node (k85 P) (.node (k149 P) (.node (x277 P) .nil .nil) .nil) (.node (k213 P) .nil .nil)) (.node (k117 P) (.node (k181 P) .nil .nil) (.node (x245 P) .nil .nil)))) (.node (k29 P) (.node (k45 P) (.node (x77 P) (.node (x141 P) (.node (k269 P) .nil .nil) .nil) (.node (k205 P) .nil .nil)) (.node (x109 P) (.node (k173 P) (.node (k301 P) .nil .nil) .nil) (.node (k237 P) .nil .nil))) (.node (k61 P) (.node (k93 P) (.node (k157 P) (.node (x285 P) .nil .nil) .nil) (.node (k221 P) .nil .nil)) (.node (k125 P) (.node (k189 P) .nil .nil) (.node (k253 P) .nil .nil))))))) (.node (k2 P) (.node (PySem.W.boot_o_4 P) (.node (PySem.W.boot_o_8 P) (.node (x16 P) (.node (k32 P) (.node (k64 P) (.node (k128 P) (.node (x256 P) .nil .nil) .nil) (.node (k192 P) .nil .nil)) (.node (k96 P) (.node (k160 P) (.node (k288 P) .nil .nil) .nil) (.node (x224 P) .nil .nil))) (.node (k48 P) (.node (k80 P) (.node (x144 P) (.node (k272 P) .nil .nil) .nil) (.node (k208 P) .nil .nil)) (.node (k112 P) (.node (x176 P) (.node (k304 P) .nil .nil) .nil) (.node (k240 P) .nil .nil)))) (.node (x24 P) (.node (k40 P) (.node (x72 P) (.node (k136 P) (.node (k264 P) .nil .nil) .nil) (.node (x200 P) .nil .nil)) (.node (k104 P) (.node (k168 P) (.node (x296 P) .nil .nil) .nil) (.node (k232 P) .nil .nil))) (.node (x56 P) (.node (k88 P) (.node (k152 P) (.node (k280 P) .nil .nil) .nil) (.node (k216 P) .nil .nil)) (.node (x120 P) (.node (k184 P) .nil .nil) (.node (k248 P) .nil .nil))))) (.node (x12 P) (.node (x20 P) (.node (k36 P) (.node (k68 P) (.node (k132 P) (.node (k260 P) .nil .nil) .nil) (.node (k196 P) .nil .nil)) (.node (k100 P) (.node (k164 P) (.node (x292 P) .nil .nil) .nil) (.node (x228 P) .nil .nil))) (.node (x52 P) (.node (k84 P) (.node (x148 P) (.node (k276 P) .nil .nil) .nil) (.node (k212 P) .nil .nil)) (.node (x116 P) (.node (k180 P) (.node (k308 P) .nil .nil) .nil) (.node (k244 P) .nil .nil)))) (.node (k28 P) (.node (k44 P) (.node (x76 P) (.node (k140 P) (.node (k268 P) .nil .nil) .nil) (.node (x204 P) .nil .nil)) (.node (k108 P) (.node (x172 P) (.node (k300 P) .nil .nil) .nil) (.node (k236 P) .nil .nil))) (.node (k60 P) (.node (x92 P) (.node (k156 P) (.node (k284 P) .nil .nil) .nil) (.node (k220 P) .nil .nil)) (.node (k124 P) (.node (k188 P) .nil .nil) (.node (x252 P) .nil .nil)))))) (.node (PySem.W.boot_o_6 P) (.node (PySem.W.boot_o_10 P) (.node (x18 P) (.node (x34 P) (.node (k66 P) (.node (x130 P) (.node (k258 P) .nil .nil) .nil) (.node (k194 P) .nil .nil)) (.node (k98 P) (.node (x162 P) (.node (k290 P) .nil .nil) .nil) (.node (k226 P) .nil .nil))) (.node (x50 P) (.node (x82 P) (.node (k146 P) (.node (k274 P) .nil .nil) .nil) (.node (k210 P) .nil .nil)) (.node (k114 P) (.node (k178 P) (.node (x306 P) .nil .nil) .nil) (.node (x242 P) .nil .nil)))) (.node (k26 P) (.node (k42 P) (.node (x74 P) (.node (k138 P) (.node (x266 P) .nil .nil) .nil) (.node (k202 P) .nil .nil)) (.node (x106 P) (.node (k170 P) (.node (k298 P) .nil .nil) .nil) (.node (k234 P) .nil .nil))) (.node (k58 P) (.node (x90 P) (.node (k154 P) (.node (x282 P) .nil .nil) .nil) (.node (x218 P) .nil .nil)) (.node (k122 P) (.node (x186 P) .nil .nil) (.node (k250 P) .nil .nil))))) (.node (x14 P) (.node (k22 P) (.node (x38 P) (.node (x70 P) (.node (x134 P) (.node (k262 P) .nil .nil) .nil) (.node (k198 P) .nil .nil)) (.node (x102 P) (.node (k166 P) (.node (k294 P) .nil .nil) .nil) (.node (k230 P) .nil .nil))) (.node (x54 P) (.node (k86 P) (.node (k150 P) (.node (x278 P) .nil .nil) .nil) (.node (x214 P) .nil .nil)) (.node (k118 P) (.node (k182 P) .nil .nil) (.node (k246 P) .nil .nil)))) (.node (k30 P) (.node (k46 P) (.node (k78 P) (.node (k142 P) (.node (x270 P) .nil .nil) .nil) (.node (k206 P) .nil .nil)) (.node (k110 P) (.node (k174 P) (.node (k302 P) .nil .nil) .nil) (.node (x238 P) .nil .nil))) (.node (x62 P) (.node (k94 P) (.node (x158 P) (.node (k286 P) .nil .nil) .nil) (.node (k222 P) .nil .nil)) (.node (k126 P) (.node (x190 P) .nil .nil) (.node (k254 P) .nil .nil)))))))
noncomputable def Ha (P : Params) : Heap := ⟨⟨[PySem.W.boot_o_0 P, PySem.W.boot_o_1 P, PySem.W.boot_o_2 P, PySem.W.boot_o_3 P, PySem.W.boot_o_4 P, PySem.W.boot_o_5 P, PySem.W.boot_o_6 P, PySem.W.boot_o_7 P, PySem.W.boot_o_8 P, PySem.W.boot_o_9 P, PySem.W.boot_o_10 P, x11 P, y44 P, x13 P, x14 P]⟩, {}⟩
noncomputable def Hz (P : Params) : Heap := ⟨⟨[PySem.W.boot_o_0 P, PySem.W.boot_o_1 P, k2 P, k3 P, PySem.W.boot_o_4 P, PySem.W.boot_o_5 P, PySem.W.boot_o_6 P, PySem.W.boot_o_7 P, PySem.W.boot_o_8 P, PySem.W.boot_o_9 P, PySem.W.boot_o_10 P, x11 P, x12 P, x13 P, x14 P, x15 P, x16 P, x17 P, x18 P, x19 P, x20 P, x21 P, k22 P, k23 P, x24 P, k25 P, k26 P, x27 P, k28 P, k29 P, k30 P, x31 P, k32 P, k33 P, x34 P, k35 P, k36 P, k37 P, x38 P, k39 P, k40 P, x41 P, k42 P, k43 P, k44 P, k45 P, k46 P, k47 P, k48 P, x49 P, x50 P, k51 P, x52 P, x53 P, x54 P, x55 P, x56 P, x57 P, k58 P, x59 P, k60 P, k61 P, x62 P, k63 P, k64 P, k65 P, k66 P, k67 P, k68 P, x69 P, x70 P, k71 P, x72 P, x73 P, x74 P, x75 P, x76 P, x77 P, k78 P, x79 P, k80 P, k81 P, x82 P, k83 P, k84 P, k85 P, k86 P, k87 P, k88 P, x89 P, x90 P, k91 P, x92 P, k93 P, k94 P, x95 P, k96 P, k97 P, k98 P, x99 P, k100 P, k101 P, x102 P, k103 P, k104 P, k105 P, x106 P, k107 P, k108 P, x109 P, k110 P, k111 P, k112 P, x113 P, k114 P, k115 P, x116 P, k117 P, k118 P, k119 P, x120 P, k121 P, k122 P, x123 P, k124 P, k125 P, k126 P, x127 P, k128 P, k129 P, x130 P, k131 P, k132 P, k133 P, x134 P, k135 P, k136 P, x137 P, k138 P, k139 P, k140 P, x141 P, k142 P, k143 P, x144 P, k145 P, k146 P, k147 P, x148 P, k149 P, k150 P, x151 P, k152 P, k153 P, k154 P, x155 P, k156 P, k157 P, x158 P, k159 P, k160 P, k161 P, x162 P, k163 P, k164 P, x165 P, k166 P, k167 P, k168 P, x169 P, k170 P, k171 P, x172 P, k173 P, k174 P, k175 P, x176 P, k177 P, k178 P, x179 P, k180 P, k181 P, k182 P, x183 P, k184 P, k185 P, x186 P, k187 P, k188 P, k189 P, x190 P, k191 P, k192 P, x193 P, k194 P, k195 P, k196 P, x197 P, k198 P, k199 P, x200 P, k201 P, k202 P, k203 P, x204 P, k205 P, k206 P, x207 P, k208 P, k209 P, k210 P, x211 P, k212 P, k213 P, x214 P, k215 P, k216 P, k217 P, x218 P, x219 P, k220 P, k221 P, k222 P, x223 P, x224 P, k225 P, k226 P, k227 P, x228 P, k229 P, k230 P, x231 P, k232 P, k233 P, k234 P, x235 P, k236 P, k237 P, x238 P, k239 P, k240 P, k241 P, x242 P, k243 P, k244 P, x245 P, k246 P, k247 P, k248 P, x249 P, k250 P, k251 P, x252 P, k253 P, k254 P, k255 P, x256 P, k257 P, k258 P, x259 P, k260 P, k261 P, k262 P, x263 P, k264 P, k265 P, x266 P, k267 P, k268 P, k269 P, x270 P, k271 P, k272 P, x273 P, k274 P, k275 P, k276 P, x277 P, x278 P, k279 P, k280 P, k281 P, x282 P, k283 P, k284 P, x285 P, k286 P, k287 P, k288 P, x289 P, k290 P, k291 P, x292 P, k293 P, k294 P, k295 P, x296 P, k297 P, k298 P, x299 P, k300 P, k301 P, k302 P, x303 P, k304 P, k305 P, x306 P, k307 P, k308 P]⟩, {}⟩
noncomputable abbrev PR : Program := PySem.Challenge.rw_nt0635_01.row.toRowW.prog
noncomputable def EN : Env := { scope := PR.main.scope, locals := mainNs, globals := mainNs, cells := [], code := .ref 13, frame := some 14 }
noncomputable abbrev BD : List Stmt := behindTheImports PR
noncomputable abbrev q0 : Pos := ⟨0, 0, 0, 0⟩
noncomputable abbrev sT (T : Params → BT) (n t : Nat) (w : World) (os : OsState) : SharedT := ⟨T w.params, n, {}, #[], {}, t, os⟩
noncomputable def S0 : List Stmt := (BD.drop 0).take 3
noncomputable def S1 : List Stmt := (BD.drop 3).take 1
noncomputable def S2 : List Stmt := (BD.drop 4).take 6
noncomputable def S3 : List Stmt := (BD.drop 10).take 13
noncomputable def S4 : List Stmt := (BD.drop 23).take 12
noncomputable def S5 : List Stmt := (BD.drop 35).take 3
end
theorem r_pre (w : World) : (fun os => topGo treeTable PR w 11 (some (.ref 6)) 12 ⟨boot_heap w.params, #[], boot_drawn, boot_toks, os⟩ (topStub PR)) = fun os => some (⟨Ha w.params, #[], {}, 187, os⟩, ⟨denote treeTable (.body BD EN), .body BD EN, q0, [topFrame q0]⟩) := by kernel_rfl
theorem r_blk (w : World) : (fun os => segRun treeTable PR w 11 (some (.ref 6)) 1 1 ⟨Ha w.params, #[], {}, 187, os⟩ (blockOf BD EN (.body BD EN) q0 [topFrame q0])) = fun os => some (.next, (sT T0 15 187 w os).abs, .body BD EN, q0) := by kernel_rfl
theorem r_0 (w : World) : (fun os => segRunT treeTable PR w 11 (some (.ref 6)) 1 332 (sT T0 15 187 w os) (piecesOf S0 EN (.body BD EN) ⟨0, 0, 0, 0⟩ [topFrame q0])) = fun os => some (.next, sT T1 51 262 w os, .body BD EN, ⟨3, 0, 21, 37⟩) := by kernel_rfl
theorem r_1 (w : World) : (fun os => segRunT treeTable PR w 11 (some (.ref 6)) 1 230 (sT T1 51 262 w os) (piecesOf S1 EN (.body BD EN) ⟨3, 0, 21, 37⟩ [topFrame q0])) = fun os => some (.next, sT T2 71 292 w os, .body BD EN, ⟨22, 0, 26, 23⟩) := by kernel_rfl
theorem r_2 (w : World) : (fun os => segRunT treeTable PR w 11 (some (.ref 6)) 1 386 (sT T2 71 292 w os) (piecesOf S2 EN (.body BD EN) ⟨22, 0, 26, 23⟩ [topFrame q0])) = fun os => some (.next, sT T3 126 368 w os, .body BD EN, ⟨72, 0, 73, 26⟩) := by kernel_rfl
theorem r_3 (w : World) : (fun os => segRunT treeTable PR w 11 (some (.ref 6)) 1 378 (sT T3 126 368 w os) (piecesOf S3 EN (.body BD EN) ⟨72, 0, 73, 26⟩ [topFrame q0])) = fun os => some (.next, sT T4 210 474 w os, .body BD EN, ⟨145, 0, 148, 57⟩) := by kernel_rfl
theorem r_4 (w : World) : (fun os => segRunT treeTable PR w 11 (some (.ref 6)) 1 376 (sT T4 210 474 w os) (piecesOf S4 EN (.body BD EN) ⟨145, 0, 148, 57⟩ [topFrame q0])) = fun os => some (.next, sT T5 288 591 w os, .body BD EN, ⟨226, 0, 234, 59⟩) := by kernel_rfl
theorem r_5 (w : World) : (fun os => segRunT treeTable PR w 11 (some (.ref 6)) 1 108 (sT T5 288 591 w os) (piecesOf S5 EN (.body BD EN) ⟨226, 0, 234, 59⟩ [topFrame q0])) = fun os => some (.next, sT T6 309 632 w os, .body BD EN, ⟨255, 0, 274, 15⟩) := by kernel_rfl
theorem r_fin (w : World) : (fun os => topRun treeTable PR w 11 (some (.ref 6)) 2 (sT T6 309 632 w os).abs ⟨doneF .next, .body BD EN, ⟨255, 0, 274, 15⟩, [topFrame q0]⟩) = fun os => some ⟨Hz w.params, #[], {}, 632, os⟩ := by kernel_rfl
theorem r_app {w : World} {n N : Nat} {s s' : SharedT} {r : Shared} {l rest : List Stmt} {pos p' : Pos} (h : segRunT treeTable PR w 11 (some (.ref 6)) 1 n s (piecesOf l EN (.body BD EN) pos [topFrame q0]) = some (.next, s', .body BD EN, p'))
    (k : topRun treeTable PR w 11 (some (.ref 6)) N s'.abs (restOf rest EN (.body BD EN) p' [topFrame q0]) = some r) : topRun treeTable PR w 11 (some (.ref 6)) (n + N) s.abs (restOf (l ++ rest) EN (.body BD EN) pos [topFrame q0]) = some r := piece_app (segRun_of h) k
theorem bd_eq : BD = S0 ++ (S1 ++ (S2 ++ (S3 ++ (S4 ++ (S5 ++ []))))) := by kernel_rfl
theorem r_all (w : World) (os : OsState) : topRun treeTable PR w 11 (some (.ref 6)) (12 + (1 + (332 + (230 + (386 + (378 + (376 + (108 + 2)))))))) ⟨boot_heap w.params, #[], boot_drawn, boot_toks, os⟩ (topStub PR) = some ⟨Hz w.params, #[], {}, 632, os⟩ := by
  refine go_top (congrFun (r_pre w) os) (piece_block (congrFun (r_blk w) os) ?_)
  have e : restOf BD EN (.body BD EN) q0 [topFrame q0] = restOf (S0 ++ (S1 ++ (S2 ++ (S3 ++ (S4 ++ (S5 ++ [])))))) EN (.body BD EN) q0 [topFrame q0] := congrArg (fun b => restOf b EN (.body BD EN) q0 [topFrame q0]) bd_eq
  rw [e]
  exact r_app (congrFun (r_0 w) os) (r_app (congrFun (r_1 w) os) (r_app (congrFun (r_2 w) os) (r_app (congrFun (r_3 w) os) (r_app (congrFun (r_4 w) os) (r_app (congrFun (r_5 w) os) (piece_nil (congrFun (r_fin w) os)))))))
noncomputable abbrev XT : Shared → Bool := fun s => xlAt QW [] s && recOk (RowW.records PySem.Challenge.rw_nt0635_01.row.toRowW) s
theorem r_size (w : World) : ((boot_heap w.params).isNs mainGlobals && (#[] : Array GenState).size == 0, (boot_heap w.params).objs.size, (boot_heap w.params).nsMap mainGlobals "__annotations__") = (true, 11, some (.ref 6)) := by kernel_rfl
theorem r_looks (w : World) : (fun os => ((staticsOk (importedModules PR.main.body) (boot_heap w.params) (Hz w.params) && namesBound PR (Hz w.params) && gensDone ⟨Hz w.params, #[], {}, 632, os⟩ && laidKept (boot_heap w.params) (Hz w.params)),
        openSeen QW [] (importedModules PR.main.body) XT true ⟨Hz w.params, #[], {}, 632, os⟩, Hook.obs HKk ⟨Hz w.params, #[], {}, 632, os⟩)) = fun _ => (true, openGood QW [], Hook.val HKk w) := by kernel_rfl
theorem left_ok : LeftO PR QW [] XT (Hook.obs HKk) (Hook.val HKk) 3734 :=
  LeftO.of_pieces (boot_open (by kernel_rfl) (by kernel_rfl) fun s => by kernel_rfl) r_size r_all (by kernel_rfl) r_looks

noncomputable def lawD : { x : DefRec × List (Str × Expr) // defOf QW "law" = some x } := ⟨(_, _), rfl⟩
theorem hn (hc : WalkO QW [] (XL QW []) HKk.says PySem.Challenge.rw_nt0635_01.row.toRowW lawD.1.1 lawD.1.2 fun f vs => PySem.call f vs) : PySem.Challenge.rw_nt0635_01.Holds := by
  w_on; o_law
  refine holds_open (q := QW) (loose := []) (Xt := XT) (XP := XL QW []) (Yf := Hook.obs HKk) (Ya := Hook.val HKk) (YP := Hook.says HKk) (N := 3734) left_ok (Hook.of HKk) (Hook.keeps HKk) (fun s e => xl_of s (Bool.and_eq_true_iff.mp e).1) XL.keeps (by rfl) (by rfl) (by rfl) (fun s e => recFacts_of (Bool.and_eq_true_iff.mp e).2) (by rfl) (by first | assumption | decide +kernel) (by decide +kernel) ⟨rfl, rfl, rfl, rfl, rfl, by decide +kernel⟩ ?hw ?hc
  case hw => w_witness2
  exact hc

noncomputable def glOf (w : World) (mean : ExcName → Option Value) (mg mb : Str → Option Value) : Gl := { prog := PySem.Challenge.rw_nt0635_01.row.prog, w := w, K := KF w.params, p := QW, loose := looseW QW [], mean := mean, mg := mg, mb := mb, lim := ⟨none, by kernel_rfl, by kernel_rfl, by kernel_rfl, by kernel_rfl⟩ }
section
variable {w : World} {mean : ExcName → Option Value} {mg mb : Str → Option Value}
theorem fn_of {x : Str} {a : Addr} {ps : Arguments} {body : List Stmt} {sc : Scope} {oc : Value} {od : Option Addr} {doc pm : Value} {an : Option Addr} {cdv ct : Value} {osl : Array (Option Value)} (h1 : (KF w.params).lookup a = some ⟨oc, od, .func (fnOf x x ps body sc .none .none doc pm an cdv ct), osl⟩)
    (h2 : codeIn (KF w.params) cdv x = true) (h3 : nsIn (KF w.params) mainGlobals x = some (some (.ref a))) (h4 : keepIn (KF w.params) (.ref a) = true) : FnK (glOf w mean mg mb) x a ps body sc := ⟨⟨oc, od, doc, pm, an, cdv, ct, osl, h1, h2⟩, h3, h4⟩
theorem ga_of : GA (glOf w mean mg mb) where
  f5 := show FnK (glOf w mean mg mb) "wrap" 97 (fps 5) (fbd 5) (fsc 5) from fn_of (show (KF w.params).lookup 97 = some (k97 w.params) by kernel_rfl) (by kernel_rfl) (by kernel_rfl) (by kernel_rfl)
  f6 := show FnK (glOf w mean mg mb) "divide" 104 (fps 6) (fbd 6) (fsc 6) from fn_of (show (KF w.params).lookup 104 = some (k104 w.params) by kernel_rfl) (by kernel_rfl) (by kernel_rfl) (by kernel_rfl)
  f7 := show FnK (glOf w mean mg mb) "power" 111 (fps 7) (fbd 7) (fsc 7) from fn_of (show (KF w.params).lookup 111 = some (k111 w.params) by kernel_rfl) (by kernel_rfl) (by kernel_rfl) (by kernel_rfl)
  f8 := show FnK (glOf w mean mg mb) "arith" 118 (fps 8) (fbd 8) (fsc 8) from fn_of (show (KF w.params).lookup 118 = some (k118 w.params) by kernel_rfl) (by kernel_rfl) (by kernel_rfl) (by kernel_rfl)
  f9 := show FnK (glOf w mean mg mb) "is_blank" 125 (fps 9) (fbd 9) (fsc 9) from fn_of (show (KF w.params).lookup 125 = some (k125 w.params) by kernel_rfl) (by kernel_rfl) (by kernel_rfl) (by kernel_rfl)
  f10 := show FnK (glOf w mean mg mb) "digit_of" 132 (fps 10) (fbd 10) (fsc 10) from fn_of (show (KF w.params).lookup 132 = some (k132 w.params) by kernel_rfl) (by kernel_rfl) (by kernel_rfl) (by kernel_rfl)
  f11 := show FnK (glOf w mean mg mb) "read_digits" 139 (fps 11) (fbd 11) (fsc 11) from fn_of (show (KF w.params).lookup 139 = some (k139 w.params) by kernel_rfl) (by kernel_rfl) (by kernel_rfl) (by kernel_rfl)
  f12 := show FnK (glOf w mean mg mb) "skip_blanks" 146 (fps 12) (fbd 12) (fsc 12) from fn_of (show (KF w.params).lookup 146 = some (k146 w.params) by kernel_rfl) (by kernel_rfl) (by kernel_rfl) (by kernel_rfl)
  f13 := show FnK (glOf w mean mg mb) "text_in_base" 153 (fps 13) (fbd 13) (fsc 13) from fn_of (show (KF w.params).lookup 153 = some (k153 w.params) by kernel_rfl) (by kernel_rfl) (by kernel_rfl) (by kernel_rfl)
  f14 := show FnK (glOf w mean mg mb) "number_text" 160 (fps 14) (fbd 14) (fsc 14) from fn_of (show (KF w.params).lookup 160 = some (k160 w.params) by kernel_rfl) (by kernel_rfl) (by kernel_rfl) (by kernel_rfl)
  f15 := show FnK (glOf w mean mg mb) "float_byte" 167 (fps 15) (fbd 15) (fsc 15) from fn_of (show (KF w.params).lookup 167 = some (k167 w.params) by kernel_rfl) (by kernel_rfl) (by kernel_rfl) (by kernel_rfl)
  f16 := show FnK (glOf w mean mg mb) "byte_float" 174 (fps 16) (fbd 16) (fsc 16) from fn_of (show (KF w.params).lookup 174 = some (k174 w.params) by kernel_rfl) (by kernel_rfl) (by kernel_rfl) (by kernel_rfl)
  f17 := show FnK (glOf w mean mg mb) "log2" 181 (fps 17) (fbd 17) (fsc 17) from fn_of (show (KF w.params).lookup 181 = some (k181 w.params) by kernel_rfl) (by kernel_rfl) (by kernel_rfl) (by kernel_rfl)
  f18 := show FnK (glOf w mean mg mb) "ceil_log2" 188 (fps 18) (fbd 18) (fsc 18) from fn_of (show (KF w.params).lookup 188 = some (k188 w.params) by kernel_rfl) (by kernel_rfl) (by kernel_rfl) (by kernel_rfl)
  f20 := show FnK (glOf w mean mg mb) "_law_ops" 195 (fps 20) (fbd 20) (fsc 20) from fn_of (show (KF w.params).lookup 195 = some (k195 w.params) by kernel_rfl) (by kernel_rfl) (by kernel_rfl) (by kernel_rfl)
  f21 := show FnK (glOf w mean mg mb) "_law_cell" 202 (fps 21) (fbd 21) (fsc 21) from fn_of (show (KF w.params).lookup 202 = some (k202 w.params) by kernel_rfl) (by kernel_rfl) (by kernel_rfl) (by kernel_rfl)
  f22 := show FnK (glOf w mean mg mb) "_law_cut" 209 (fps 22) (fbd 22) (fsc 22) from fn_of (show (KF w.params).lookup 209 = some (k209 w.params) by kernel_rfl) (by kernel_rfl) (by kernel_rfl) (by kernel_rfl)
  f23 := show FnK (glOf w mean mg mb) "_law_digits" 216 (fps 23) (fbd 23) (fsc 23) from fn_of (show (KF w.params).lookup 216 = some (k216 w.params) by kernel_rfl) (by kernel_rfl) (by kernel_rfl) (by kernel_rfl)
  f24 := show FnK (glOf w mean mg mb) "_law_octets" 221 (fps 24) (fbd 24) (fsc 24) from fn_of (show (KF w.params).lookup 221 = some (k221 w.params) by kernel_rfl) (by kernel_rfl) (by kernel_rfl) (by kernel_rfl)
  f25 := show FnK (glOf w mean mg mb) "_law_capitals" 226 (fps 25) (fbd 25) (fsc 25) from fn_of (show (KF w.params).lookup 226 = some (k226 w.params) by kernel_rfl) (by kernel_rfl) (by kernel_rfl) (by kernel_rfl)
  f26 := show FnK (glOf w mean mg mb) "_law_sort" 233 (fps 26) (fbd 26) (fsc 26) from fn_of (show (KF w.params).lookup 233 = some (k233 w.params) by kernel_rfl) (by kernel_rfl) (by kernel_rfl) (by kernel_rfl)
  f27 := show FnK (glOf w mean mg mb) "_law_marked" 240 (fps 27) (fbd 27) (fsc 27) from fn_of (show (KF w.params).lookup 240 = some (k240 w.params) by kernel_rfl) (by kernel_rfl) (by kernel_rfl) (by kernel_rfl)
  f28 := show FnK (glOf w mean mg mb) "_law_read" 247 (fps 28) (fbd 28) (fsc 28) from fn_of (show (KF w.params).lookup 247 = some (k247 w.params) by kernel_rfl) (by kernel_rfl) (by kernel_rfl) (by kernel_rfl)
  f29 := show FnK (glOf w mean mg mb) "_law_power" 254 (fps 29) (fbd 29) (fsc 29) from fn_of (show (KF w.params).lookup 254 = some (k254 w.params) by kernel_rfl) (by kernel_rfl) (by kernel_rfl) (by kernel_rfl)
  f30 := show FnK (glOf w mean mg mb) "_law_done" 261 (fps 30) (fbd 30) (fsc 30) from fn_of (show (KF w.params).lookup 261 = some (k261 w.params) by kernel_rfl) (by kernel_rfl) (by kernel_rfl) (by kernel_rfl)
  f31 := show FnK (glOf w mean mg mb) "_law_tried" 268 (fps 31) (fbd 31) (fsc 31) from fn_of (show (KF w.params).lookup 268 = some (k268 w.params) by kernel_rfl) (by kernel_rfl) (by kernel_rfl) (by kernel_rfl)
  f32 := show FnK (glOf w mean mg mb) "_law_like" 275 (fps 32) (fbd 32) (fsc 32) from fn_of (show (KF w.params).lookup 275 = some (k275 w.params) by kernel_rfl) (by kernel_rfl) (by kernel_rfl) (by kernel_rfl)
  f33 := show FnK (glOf w mean mg mb) "_law_drawn" 280 (fps 33) (fbd 33) (fsc 33) from fn_of (show (KF w.params).lookup 280 = some (k280 w.params) by kernel_rfl) (by kernel_rfl) (by kernel_rfl) (by kernel_rfl)
  f34 := show FnK (glOf w mean mg mb) "_law_texts_right" 287 (fps 34) (fbd 34) (fsc 34) from fn_of (show (KF w.params).lookup 287 = some (k287 w.params) by kernel_rfl) (by kernel_rfl) (by kernel_rfl) (by kernel_rfl)
  f35 := show FnK (glOf w mean mg mb) "_law_rings_right" 294 (fps 35) (fbd 35) (fsc 35) from fn_of (show (KF w.params).lookup 294 = some (k294 w.params) by kernel_rfl) (by kernel_rfl) (by kernel_rfl) (by kernel_rfl)
  f36 := show FnK (glOf w mean mg mb) "_law_sizes_right" 301 (fps 36) (fbd 36) (fsc 36) from fn_of (show (KF w.params).lookup 301 = some (k301 w.params) by kernel_rfl) (by kernel_rfl) (by kernel_rfl) (by kernel_rfl)
  f37 := show FnK (glOf w mean mg mb) "law" 308 (fps 37) (fbd 37) (fsc 37) from fn_of (show (KF w.params).lookup 308 = some (k308 w.params) by kernel_rfl) (by kernel_rfl) (by kernel_rfl) (by kernel_rfl)
  blanks := by kernel_rfl
  nabs := by kernel_rfl
  nlen := by kernel_rfl
  nmax := by kernel_rfl
  nrange := by kernel_rfl
  nbytes := by kernel_rfl
  nlist := by kernel_rfl
  nisi := by kernel_rfl
  nbool := by kernel_rfl
theorem gx_of : GX (glOf w mean mg mb) where
  cls := show (KF w.params).lookup 67 = some luaO by kernel_rfl
  ok := by kernel_rfl
  init := by kernel_rfl
  sa := by kernel_rfl
  va := by kernel_rfl
  tr := by kernel_rfl
  nam := by kernel_rfl
  kts := by kernel_rfl
  fn := ⟨_, _, _, _, _, _, _, _, show (KF w.params).lookup 64 = some (k64 w.params) by kernel_rfl, by kernel_rfl⟩
  ty := by kernel_rfl
  keep := by kernel_rfl
  fi := by kernel_rfl
theorem gy_of : GY (glOf w mean mg mb) where
  mks := by kernel_rfl
  fi := by kernel_rfl
  fn := by kernel_rfl
  keep := by kernel_rfl
  nam := by kernel_rfl
  it := ⟨_, _, _, _, _, _, _, _, show (KF w.params).lookup 29 = some (k29 w.params) by kernel_rfl, by kernel_rfl⟩
  df := show (KF w.params).lookup 22 = some (k22 w.params) by kernel_rfl
  sa := by kernel_rfl
  po := by kernel_rfl
  hd := by kernel_rfl
  tk := by kernel_rfl
end

/-- law's frame -/
noncomputable def cxOf {w : World} {s₁ : Shared} {mean : ExcName → Option Value} {mg mb : Str → Option Value} (T : Top QW (looseW QW []) mean mg mb s₁.heap) (K0 : Below callerA s₁.heap [] s₁.heap) (X : (KF w.params).In s₁.heap) (L fa : Addr) (cd : Value) : Cx (glOf w mean mg mb) 4 :=
  { dp := 2 + claimMargin, un := 7, gd := some [], cn := "law", cs := fsc 37, L := L, a := fa, ccd := cd, cl := [], outer := [], A₀ := callerA, base := s₁.heap, h₀ := s₁.heap, B := K0, X := X, T := T, hk := by decide +kernel, hd := by decide, hu := by decide, ht := fun _ => ⟨rfl, rfl⟩, XB := X, TB := T }
theorem law_walk : WalkO QW [] (XL QW []) HKk.says PySem.Challenge.rw_nt0635_01.row.toRowW lawD.1.1 lawD.1.2 fun f vs => PySem.call f vs := by
  k_go0
  rename_i w s₀ s₁ mg mb G Y fa o pm doc kV ho hg KX X V GL T B TE TW w9 w8 M w7 w6 hcd ns hs hlay0 hL1 hr1 hl2 as4 as3 la vs as1 hL ra w1 r0 hI hr hc1 hc2 K0 hD h1 F N0
  have hlen : ns.length ≤ 63 := by omega
  obtain ⟨c, hc⟩ : ∃ c, c = cxOf T K0 KX s₁.heap.objs.size fa (.ref w7) := ⟨_, rfl⟩
  have hA : callerA.deeper (envOf "law" (fsc 37) s₁.heap.objs.size fa (.ref w7)) = c.A := by subst hc; rfl
  have hE : envOf "law" (fsc 37) s₁.heap.objs.size fa (.ref w7) = c.env := by subst hc; rfl
  show wpAny _ (callerA.deeper (envOf "law" (fsc 37) s₁.heap.objs.size fa (.ref w7))) (execs (fbd 37) (envOf "law" (fsc 37) s₁.heap.objs.size fa (.ref w7))) _ _ _
  rw [hA, hE]
  obtain ⟨mm, hmm⟩ : ∃ mm : Str → Option Value, mm = fun x => List.lookup x ([(("script" : Str), Value.ref la)] : List (Str × Value)).reverse := ⟨_, rfl⟩
  have S1 : St c [] mm h1 := by subst hc hmm; exact ⟨F, N0⟩
  have hrl : RL c.h₀ [] [.lst ns] [.ref la] := ⟨_, _, rfl, ⟨la, vs, rfl, by subst hc; exact hL, hI⟩, rfl⟩
  refine wpAny_mono (Q := fun f s' => GoodW PySem.Challenge.rw_nt0635_01.row.claim (classAt s₀.heap) (ExcName.means s₀.heap) [ofPy (PyData.list (List.map PyData.int ns))] s₁ (.ok (.ret (match f with | .ret v => v | _ => .none))) s') (E := noE) ?_ (fun _ _ z => z) fun _ _ z => z.elim
  refine law_ok ga_of gx_of gy_of (by kernel_rfl) (by kernel_rfl) (by kernel_rfl) (by kernel_rfl) hlen c [] mm { s₁ with heap := h1, toks := _ } _ (by subst hc; rfl) (fun y hy => ?_) S1 (fun x v e => ?_) (fun fl x ρ' m' nw h2 tk2 hx hf q => ?_)
  · rw [mkRho_keys] at hy
    exact (by decide +kernel : ∀ y ∈ ((["script"] : List Str) ++ (["width", "limits", "turn", "told", "base", "a", "b", "here", "there", "op"] : List Str)), (fsc 37).names.lookup y = some .local ∧ (y == ("__debug__" : Str)) = false) y hy
  · obtain ⟨u, q1, q2⟩ := mkRho_ag hrl e
    exact ⟨u, by rw [hmm]; exact look_zip (by decide) q1, q2⟩
  · subst hx
    obtain ⟨u, rfl, hu⟩ := hf
    cases hu
    have F2 := q.st.F
    have e1 : c.h₀ = s₁.heap := by rw [hc]; rfl
    rw [e1] at F2
    refine goodW_bool (s' := { s₁ with heap := h2, toks := tk2 }) F2 hg (fun cls => ?_) ?_
    · rfl
    · wrow_post
theorem all_holds : PySem.Challenge.rw_nt0635_01.Holds := hn law_walk

end Mine
theorem PySem.Challenge.cw_nt0635_01_holds : PySem.Challenge.rw_nt0635_01.Holds :=
  Mine.all_holds
